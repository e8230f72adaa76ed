import PyProof.Rows.All
import Wide.All
import OpenK.AllK
import Wide.FinOn
import HandS.ForMost
import HandS.Deep
import HandS.TupAny
import HandS.TupMul
import HandS.Zip
import HandS.Walk
import HandS.IsInst
import HandS.Conv
import HandS.Flow
import HandS.Strs
import KE.DatumIndex
import KE.GoesNew
import KE.GoesMore
import KE.KeyNested
import KE.KDictDisplayH
import PyProof.DictTable
import HandS.Style
import HandS.WrittenGet
import HandS.TupSets
import KE.SortData
import KE.KStateDown
import Lean
import HandS.Ends
import HandS.More
import HandS.Words
import HandS.WordsExc
import HandS.Defaults
import HandS.Head0
import HandS.Head1
import HandS.Head2
import HandS.HeadEnd
import HandS.HeadHook1
import HandS.HeadHook2
import HandS.HeadHook3
import HandS.HeadHook4
import PySem.Challenge.RW_growalong_k40_whole_outcomes_by_own_step
set_option Elab.async false
set_option linter.all false
set_option maxRecDepth 100000
set_option maxHeartbeats 4000000
/-! A layer over HandS for code over data that, once laid, stays: the frozen part F of the abstract heap H. -/
namespace G
open PySem PySem.Spec PyProof.Rows L2

/-! ### nested tuples as data -/
inductive T where
  | non | bl (b : Bool) | int (i : Int) | str (x : Str) | tup (ts : List T)
mutual
inductive RT (H : Hp) : V → T → Prop
  | non : RT H .non .non
  | bl (b : Bool) : RT H (.bl b) (.bl b)
  | int (i : Int) : RT H (.int i) (.int i)
  | str (x : Str) : RT H (.str x) (.str x)
  | tup {a : Addr} {xs : List V} {ts : List T} : H a = some (.tup xs) → RTs H xs ts → RT H (.ref a) (.tup ts)
inductive RTs (H : Hp) : List V → List T → Prop
  | nil : RTs H [] []
  | cons {v : V} {vs : List V} {t : T} {ts : List T} : RT H v t → RTs H vs ts → RTs H (v :: vs) (t :: ts)
end
section
variable {H H' : Hp}
mutual
theorem RT.up (e : Same H H') : ∀ (t : T) (v : V), RT H v t → RT H' v t
  | .non, _, h => by cases h; exact .non
  | .bl b, _, h => by cases h; exact .bl b
  | .int i, _, h => by cases h; exact .int i
  | .str x, _, h => by cases h; exact .str x
  | .tup ts, _, h => by
    cases h with
    | tup ha hs => exact .tup (e _ _ ha) (RTs.up e ts _ hs)
theorem RTs.up (e : Same H H') : ∀ (ts : List T) (vs : List V), RTs H vs ts → RTs H' vs ts
  | [], _, h => by cases h; exact .nil
  | t :: ts, _, h => by
    cases h with
    | cons h1 h2 => exact .cons (RT.up e t _ h1) (RTs.up e ts _ h2)
end
end

/-! ### what is known of a value, whatever is laid later -/
structure Ty where
  p : Hp → V → Prop
  up : ∀ H H' v, Same H H' → p H v → p H' v
def Dat (t : T) : Ty := ⟨fun H v => RT H v t, fun _ _ v e h => RT.up e t v h⟩
/-- just this value -/
def Vl (u : V) : Ty := ⟨fun _ v => v = u, fun _ _ _ _ h => h⟩
abbrev AllP (H : Hp) (Ps : List Ty) (vs : List V) : Prop := Paired (fun P v => P.p H v) Ps vs
theorem AllP.up {H H' : Hp} (e : Same H H') : ∀ {Ps : List Ty} {vs : List V}, AllP H Ps vs → AllP H' Ps vs
  | _, _, .nil => .nil
  | _, _, .cons h t => .cons (Ty.up _ H H' _ e h) (AllP.up e t)
theorem AllP.get {H : Hp} : ∀ {Ps : List Ty} {vs : List V} {i : Nat} {P : Ty}, AllP H Ps vs → Ps[i]? = some P → ∃ v, vs[i]? = some v ∧ P.p H v
  | _, _, _, _, .nil, e => by simp at e
  | _, _, 0, _, .cons h _, e => by simp at e; subst e; exact ⟨_, by simp, h⟩
  | _, _, i + 1, _, .cons _ t, e => by
    obtain ⟨v, h1, h2⟩ := AllP.get (i := i) t (by simpa using e)
    exact ⟨v, by simpa using h1, h2⟩
theorem AllP.getv {H : Hp} : ∀ {Ps : List Ty} {vs : List V} {i : Nat} {v : V}, AllP H Ps vs → vs[i]? = some v → ∃ P, Ps[i]? = some P ∧ P.p H v
  | _, _, _, _, .nil, e => by simp at e
  | _, _, 0, _, .cons h _, e => by simp at e; subst e; exact ⟨_, by simp, h⟩
  | _, _, i + 1, _, .cons _ t, e => by
    obtain ⟨v, h1, h2⟩ := AllP.getv (i := i) t (by simpa using e)
    exact ⟨v, by simpa using h1, h2⟩
theorem AllP.append {H : Hp} : ∀ {Ps Qs : List Ty} {vs us : List V}, AllP H Ps vs → AllP H Qs us → AllP H (Ps ++ Qs) (vs ++ us)
  | _, _, _, _, .nil, s => s
  | _, _, _, _, .cons h t, s => .cons h (AllP.append t s)
theorem AllP.take {H : Hp} : ∀ {Ps : List Ty} {vs : List V} (n : Nat), AllP H Ps vs → AllP H (Ps.take n) (vs.take n)
  | _, _, 0, _ => .nil
  | _, _, _ + 1, .nil => .nil
  | _, _, n + 1, .cons h t => .cons h (AllP.take n t)
theorem AllP.drop {H : Hp} : ∀ {Ps : List Ty} {vs : List V} (n : Nat), AllP H Ps vs → AllP H (Ps.drop n) (vs.drop n)
  | _, _, 0, h => h
  | _, _, _ + 1, .nil => .nil
  | _, _, n + 1, .cons _ t => AllP.drop n t
theorem AllP.len {H : Hp} {Ps : List Ty} {vs : List V} (h : AllP H Ps vs) : Ps.length = vs.length := Paired.length h
theorem AllP.imp {H : Hp} {α : Type} {f g : α → Ty} (k : ∀ a v, (f a).p H v → (g a).p H v) : ∀ {as : List α} {vs : List V}, AllP H (as.map f) vs → AllP H (as.map g) vs
  | [], _, .nil => .nil
  | _ :: _, _, .cons h t => .cons (k _ _ h) (AllP.imp k t)
theorem AllP.map {H : Hp} {α : Type} {f : α → Ty} {g : α → V} (k : ∀ a, (f a).p H (g a)) : ∀ as : List α, AllP H (as.map f) (as.map g)
  | [] => .nil
  | a :: as => .cons (k a) (AllP.map k as)
/-- a tuple of these; a list of these -/
def TupP (Qs : List Ty) : Ty := ⟨fun H v => ∃ a xs, v = .ref a ∧ H a = some (.tup xs) ∧ AllP H Qs xs, fun _ _ _ e ⟨a, xs, h1, h2, h3⟩ => ⟨a, xs, h1, e _ _ h2, h3.up e⟩⟩
def LstP (Qs : List Ty) : Ty := ⟨fun H v => ∃ a xs, v = .ref a ∧ H a = some (.lst xs) ∧ AllP H Qs xs, fun _ _ _ e ⟨a, xs, h1, h2, h3⟩ => ⟨a, xs, h1, e _ _ h2, h3.up e⟩⟩
theorem rts_iff {H : Hp} : ∀ {ts : List T} {vs : List V}, RTs H vs ts ↔ AllP H (ts.map Dat) vs
  | [], vs => ⟨fun h => by cases h; exact .nil, fun h => by cases h; exact .nil⟩
  | t :: ts, vs => ⟨fun h => by
      cases h with
      | cons h1 h2 => exact .cons h1 (rts_iff.mp h2), fun h => by
      cases h with
      | cons h1 h2 => exact .cons h1 (rts_iff.mpr h2)⟩
theorem dat_tup {H : Hp} {ts : List T} {v : V} : (Dat (.tup ts)).p H v ↔ (TupP (ts.map Dat)).p H v :=
  ⟨fun h => by
    cases h with
    | tup h1 h2 => exact ⟨_, _, rfl, h1, rts_iff.mp h2⟩, fun ⟨a, xs, e, h1, h2⟩ => by subst e; exact RT.tup h1 (rts_iff.mpr h2)⟩
theorem dat_int {H : Hp} {i : Int} {v : V} (h : (Dat (.int i)).p H v) : v = .int i := by cases h; rfl
theorem dat_bl {H : Hp} {b : Bool} {v : V} (h : (Dat (.bl b)).p H v) : v = .bl b := by cases h; rfl
theorem dat_str {H : Hp} {x : Str} {v : V} (h : (Dat (.str x)).p H v) : v = .str x := by cases h; rfl
theorem dat_non {H : Hp} {v : V} (h : (Dat .non).p H v) : v = .non := by cases h; rfl

/-! ### as the library's data -/
mutual
def T.data : T → PyData
  | .non => .none
  | .bl b => .bool b
  | .int i => .int i
  | .str x => .str x
  | .tup ts => .tuple (T.datas ts)
def T.datas : List T → List PyData
  | [] => []
  | t :: ts => T.data t :: T.datas ts
end
section
variable {K : PySem.W.Frag} {H : Hp}
mutual
theorem RT.dp : ∀ (t : T) (v : V), RT H v t → Dp K H v t.data
  | .non, _, h => by cases h; exact .non
  | .bl b, _, h => by cases h; exact .bl b
  | .int i, _, h => by cases h; exact .int i
  | .str x, _, h => by cases h; exact .str x
  | .tup ts, _, h => by
    cases h with
    | tup ha hs => exact .tup (.inl (.inl ha)) (RTs.dp ts _ hs)
theorem RTs.dp : ∀ (ts : List T) (vs : List V), RTs H vs ts → DpAll K H vs (T.datas ts)
  | [], _, h => by cases h; exact .nil
  | t :: ts, _, h => by
    cases h with
    | cons h1 h2 => exact .cons (RT.dp t _ h1) (RTs.dp ts _ h2)
end
end

/-! ### growing: F frozen within H -/
structure Gr (F H F' H' : Hp) : Prop where
  ff : Same F F'
  hh : Same H H'
  fh : Same F' H'
  nw : ∀ a, H a ≠ none → F a = none → F' a = none
theorem Gr.refl {F H : Hp} (e : Same F H) : Gr F H F H := ⟨.refl _, .refl _, e, fun _ _ h => h⟩
theorem Gr.trans {F H F1 H1 F2 H2 : Hp} (a : Gr F H F1 H1) (b : Gr F1 H1 F2 H2) : Gr F H F2 H2 :=
  ⟨a.ff.trans b.ff, a.hh.trans b.hh, b.fh, fun x hx hf => b.nw x (fun q => hx (a.hh.free q)) (a.nw x hx hf)⟩
theorem Gr.new {F H : Hp} {p : Addr} {o : HO} (e : Same F H) (h : H p = none) : Gr F H (upd F p o) (upd H p o) := by
  have hF : F p = none := e.free h
  refine ⟨fun b u q => ?_, fun b u q => ?_, fun b u q => ?_, fun b hb hf => ?_⟩
  · rw [upd_ne (ne_of_none q hF)]; exact q
  · rw [upd_ne (ne_of_none q h)]; exact q
  · by_cases hb : b = p
    · subst hb; rw [upd_same] at q ⊢; exact q
    · rw [upd_ne hb] at q ⊢; exact e b u q
  · have : b ≠ p := fun z => hb (by rw [z]; exact h)
    rw [upd_ne this]; exact hf
/-- laid, not frozen -/
theorem Gr.open {F H : Hp} {p : Addr} {o : HO} (e : Same F H) (h : H p = none) : Gr F H F (upd H p o) :=
  ⟨.refl _, fun b u q => by rw [upd_ne (ne_of_none q h)]; exact q, fun b u q => by rw [upd_ne (ne_of_none (e b u q) h)]; exact e b u q, fun _ _ h => h⟩
/-- what is not frozen may change, if it is younger than the entry -/
theorem Gr.put {F0 H0 F H : Hp} {p : Addr} {o : HO} (g : Gr F0 H0 F H) (h0 : H0 p = none) (hf : F p = none) : Gr F0 H0 F (upd H p o) :=
  ⟨g.ff, fun b u q => by rw [upd_ne (ne_of_none q h0)]; exact g.hh b u q, fun b u q => by rw [upd_ne (ne_of_none q hf)]; exact g.fh b u q, g.nw⟩
/-- .. and be frozen -/
theorem Gr.freeze {F0 H0 F H : Hp} {p : Addr} {o : HO} (g : Gr F0 H0 F H) (h0 : H0 p = none) (hf : F p = none) (hp : H p = some o) : Gr F0 H0 (upd F p o) H :=
  ⟨fun b u q => by rw [upd_ne (ne_of_none (g.ff b u q) hf)]; exact g.ff b u q, g.hh, fun b u q => by
    by_cases hb : b = p
    · subst hb; rw [upd_same] at q; rw [hp]; exact q
    · rw [upd_ne hb] at q; exact g.fh b u q, fun b hb hF => by
    have : b ≠ p := fun z => hb (by rw [z]; exact h0)
    rw [upd_ne this]; exact g.nw b hb hF⟩
theorem Same.upd_new {F : Hp} {p : Addr} {o : HO} (h : F p = none) : Same F (upd F p o) := fun b u q => by rw [upd_ne (ne_of_none q h)]; exact q

/-! ### the slots -/
abbrev Tys := List (Option Ty)
structure Slots (F : Hp) (σ : L2.St) (Ps : Tys) : Prop where
  len : σ.length = Ps.length
  at_ : ∀ (i : Nat) (P : Ty), Ps[i]? = some (some P) → ∃ v, σ[i]? = some (some v) ∧ P.p F v
theorem Slots.up {F F' : Hp} {σ : L2.St} {Ps : Tys} (e : Same F F') (h : Slots F σ Ps) : Slots F' σ Ps :=
  ⟨h.len, fun i P q => let ⟨v, h1, h2⟩ := h.at_ i P q; ⟨v, h1, P.up _ _ _ e h2⟩⟩
theorem Slots.set {F : Hp} {σ : L2.St} {Ps : Tys} {v : V} {P : Ty} (h : Slots F σ Ps) (i : Nat) (hv : P.p F v) : Slots F (σ.set i (some v)) (Ps.set i (some P)) := by
  refine ⟨by rw [List.length_set, List.length_set]; exact h.len, fun j Q q => ?_⟩
  by_cases e : i = j
  · subst e
    by_cases hl : i < Ps.length
    · rw [List.getElem?_set_self hl] at q
      obtain rfl : P = Q := by simpa using q
      exact ⟨v, by rw [List.getElem?_set_self (by rw [h.len]; exact hl)], hv⟩
    · rw [List.getElem?_eq_none (by rw [List.length_set]; omega)] at q; cases q
  · rw [List.getElem?_set_ne e] at q ⊢
    exact h.at_ j Q q
theorem Slots.wipe {F : Hp} {σ : L2.St} {Ps : Tys} (h : Slots F σ Ps) (i : Nat) : Slots F (σ.set i none) (Ps.set i none) := by
  refine ⟨by rw [List.length_set, List.length_set]; exact h.len, fun j Q q => ?_⟩
  by_cases e : i = j
  · subst e
    by_cases hl : i < Ps.length
    · rw [List.getElem?_set_self hl] at q; simp at q
    · rw [List.getElem?_eq_none (by rw [List.length_set]; omega)] at q; cases q
  · rw [List.getElem?_set_ne e] at q ⊢
    exact h.at_ j Q q
/-- the slots of a block's own names forgotten -/
def wipeT (Ps : Tys) : List Nat → Tys
  | [] => Ps
  | v :: vs => (wipeT Ps vs).set v none
theorem Slots.wipes {F : Hp} {σ : L2.St} {Ps : Tys} (h : Slots F σ Ps) : ∀ vs : List Nat, Slots F (L2.wipe σ vs) (wipeT Ps vs)
  | [] => h
  | v :: vs => (Slots.wipes h vs).wipe v
theorem Slots.start {F : Hp} : ∀ {Ps : List Ty} {vs : List V} (_ : AllP F Ps vs) (N : List Str), Slots F (start N vs) (Ps.map some ++ List.replicate (N.length - vs.length) none) := by
  intro Ps vs h N
  have hl := h.len
  refine ⟨by simp [L2.start, hl], fun i P q => ?_⟩
  by_cases hi : i < Ps.length
  · rw [List.getElem?_append_left (by simpa using hi), List.getElem?_map] at q
    obtain ⟨P', e1, e2⟩ := Option.map_eq_some_iff.mp q
    cases e2
    obtain ⟨v, h1, h2⟩ := h.get e1
    refine ⟨v, ?_, h2⟩
    show (vs.map some ++ _)[i]? = _
    rw [List.getElem?_append_left (by simpa [← hl] using hi), List.getElem?_map, h1]
    rfl
  · rw [List.getElem?_append_right (by simpa using hi)] at q
    rw [List.getElem?_replicate] at q
    split at q <;> simp at q
structure RS (F0 H0 F H : Hp) (σ : L2.St) (Ps : Tys) : Prop where
  gr : Gr F0 H0 F H
  sl : Slots F σ Ps
theorem RS.step {F0 H0 F H F' H' : Hp} {σ : L2.St} {Ps : Tys} (R : RS F0 H0 F H σ Ps) (g : Gr F H F' H') : RS F0 H0 F' H' σ Ps := ⟨R.gr.trans g, R.sl.up g.ff⟩
theorem RS.set {F0 H0 F H : Hp} {σ : L2.St} {Ps : Tys} {v : V} {P : Ty} (R : RS F0 H0 F H σ Ps) (i : Nat) (hv : P.p F v) : RS F0 H0 F H (σ.set i (some v)) (Ps.set i (some P)) := ⟨R.gr, R.sl.set i hv⟩
theorem RS.here {F H : Hp} {σ : L2.St} {Ps : Tys} (e : Same F H) (s : Slots F σ Ps) : RS F H F H σ Ps := ⟨.refl e, s⟩

/-! ### what evaluates to what -/
def EvX (te : TE) (Ps : Tys) (P : Ty) : Prop := ∀ F H σ, Same F H → Slots F σ Ps → ∀ Q : VK, (∀ v F' H', Gr F H F' H' → P.p F' v → Q v H') → te σ H Q
def EvT (tt : TT) (Ps : Tys) (b : Bool) : Prop := ∀ F H σ, Same F H → Slots F σ Ps → ∀ Q : Bool → Hp → Prop, (∀ F' H', Gr F H F' H' → Q b H') → tt σ H Q
def EvA (ta : TA) (Ps : Tys) (Rs : List Ty) : Prop := ∀ F H σ, Same F H → Slots F σ Ps → ∀ Q : List V → Hp → Prop, (∀ vs F' H', Gr F H F' H' → AllP F' Rs vs → Q vs H') → ta σ H Q
def EvO (to : TO) (Ps : Tys) (o : Option Int) : Prop := ∀ F H σ, Same F H → Slots F σ Ps → ∀ Q : Option Int → Hp → Prop, (∀ F' H', Gr F H F' H' → Q o H') → to σ H Q
section
variable {K : PySem.W.Frag} {Ps : Tys} {P P' R : Ty} {ta tb te : TE} {tt tu : TT} {b c : Bool} {i j : Int} {s t : T} {ts us : List T} {Qs Rs : List Ty}
theorem EvX.imp (h : EvX te Ps P) (k : ∀ F v, P.p F v → P'.p F v) : EvX te Ps P' := fun F H σ e s Q q => h F H σ e s Q fun v F' H' g p => q v F' H' g (k F' v p)
theorem EvX.cast (h : EvX te Ps P) (e : P = P') : EvX te Ps P' := e ▸ h
theorem EvT.cast (h : EvT tt Ps b) (e : b = c) : EvT tt Ps c := e ▸ h
theorem ev_tup (h : EvX te Ps (TupP (ts.map Dat))) : EvX te Ps (Dat (.tup ts)) := h.imp fun _ _ => dat_tup.mpr
theorem ev_untup (h : EvX te Ps (Dat (.tup ts))) : EvX te Ps (TupP (ts.map Dat)) := h.imp fun _ _ => dat_tup.mp
theorem x_var {n : Nat} (h : Ps[n]? = some (some P)) : EvX (tVar n) Ps P := fun F H σ e s Q q =>
  let ⟨v, h1, h2⟩ := s.at_ n P h
  ⟨v, h1, q v F H (.refl e) h2⟩
theorem x_c {v : V} (h : ∀ F, P.p F v) : EvX (tC v) Ps P := fun F H σ e s Q q => q v F H (.refl e) (h F)
theorem x_int : EvX (tC (.int i)) Ps (Dat (.int i)) := x_c fun _ => .int i
theorem x_str {x : Str} : EvX (tC (.str x)) Ps (Dat (.str x)) := x_c fun _ => .str x
theorem x_bl : EvX (tC (.bl b)) Ps (Dat (.bl b)) := x_c fun _ => .bl b
theorem x_non : EvX (tC .non) Ps (Dat .non) := x_c fun _ => .non
theorem x_ty {n : String} : EvX (tC (.ty n)) Ps (Vl (.ty n)) := x_c fun _ => rfl
/-- two operands, then an operation by values -/
theorem x_op {r : R2} (ha : EvX ta Ps P) (hb : EvX tb Ps P') (hr : ∀ F H x y, Same F H → P.p F x → P'.p F y → ∀ Q : VK, (∀ v F' H', Gr F H F' H' → R.p F' v → Q v H') → r x y H Q) : EvX (tOp r ta tb) Ps R := fun F H σ e s Q q =>
  ha F H σ e s _ fun x F1 H1 g1 p1 => hb F1 H1 σ g1.fh (s.up g1.ff) _ fun y F2 H2 g2 p2 =>
    hr F2 H2 x y g2.fh (P.up _ _ _ g2.ff p1) p2 Q fun v F3 H3 g3 p3 => q v F3 H3 ((g1.trans g2).trans g3) p3
theorem x_un {r : V → Hp → VK → Prop} (ha : EvX ta Ps P) (hr : ∀ F H x, Same F H → P.p F x → ∀ Q : VK, (∀ v F' H', Gr F H F' H' → R.p F' v → Q v H') → r x H Q) : EvX (tUn r ta) Ps R := fun F H σ e s Q q =>
  ha F H σ e s _ fun x F1 H1 g1 p1 => hr F1 H1 x g1.fh p1 Q fun v F3 H3 g3 p3 => q v F3 H3 (g1.trans g3) p3
theorem x_opI {C : Int → Int → Prop} {g : Int → Int → V} (ha : EvX ta Ps (Dat (.int i))) (hb : EvX tb Ps (Dat (.int j))) (hc : C i j) (k : ∀ F, R.p F (g i j)) : EvX (tOp (rI C g) ta tb) Ps R :=
  x_op ha hb fun F H x y e p1 p2 Q q => ⟨i, j, dat_int p1, dat_int p2, hc, q _ F H (.refl e) (k F)⟩
theorem x_opI0 {g : Int → Int → V} (ha : EvX ta Ps (Dat (.int i))) (hb : EvX tb Ps (Dat (.int j))) (k : ∀ F, R.p F (g i j)) : EvX (tOp (rI0 g) ta tb) Ps R :=
  x_op ha hb fun F H x y e p1 p2 Q q => ⟨i, j, dat_int p1, dat_int p2, q _ F H (.refl e) (k F)⟩
theorem x_opi {g : Int → Int → Int} (ha : EvX ta Ps (Dat (.int i))) (hb : EvX tb Ps (Dat (.int j))) : EvX (tOp (rI0 fun i j => .int (g i j)) ta tb) Ps (Dat (.int (g i j))) := x_opI0 ha hb fun _ => .int _
theorem x_opb {g : Int → Int → Bool} (ha : EvX ta Ps (Dat (.int i))) (hb : EvX tb Ps (Dat (.int j))) : EvX (tOp (rI0 fun i j => .bl (g i j)) ta tb) Ps (Dat (.bl (g i j))) := x_opI0 ha hb fun _ => .bl _
theorem x_opc {C : Int → Int → Prop} {g : Int → Int → Int} (ha : EvX ta Ps (Dat (.int i))) (hb : EvX tb Ps (Dat (.int j))) (hc : C i j) : EvX (tOp (rI C fun i j => .int (g i j)) ta tb) Ps (Dat (.int (g i j))) := x_opI ha hb hc fun _ => .int _
/-- a tuple display -/
theorem x_tup {tl : TA} (h : EvA tl Ps Qs) (hl : Qs.length ≤ sizeLine) : EvX (tTup tl) Ps (TupP Qs) := fun F H σ e s Q q =>
  h F H σ e s _ fun vs F1 H1 g1 p1 => ⟨by rw [← p1.len]; exact hl, fun p hp => q _ _ _ (g1.trans (.new g1.fh hp)) ⟨p, vs, rfl, upd_same, p1.up (Same.upd_new (g1.fh.free hp))⟩⟩
theorem x_lst {tl : TA} (h : EvA tl Ps Qs) (hl : Qs.length ≤ sizeLine) : EvX (tLst tl) Ps (LstP Qs) := fun F H σ e s Q q =>
  h F H σ e s _ fun vs F1 H1 g1 p1 => ⟨by rw [← p1.len]; exact hl, fun p hp => q _ _ _ (g1.trans (.new g1.fh hp)) ⟨p, vs, rfl, upd_same, p1.up (Same.upd_new (g1.fh.free hp))⟩⟩
theorem a_nil : EvA tNil Ps [] := fun F H σ e s Q q => q [] F H (.refl e) .nil
theorem a_cons {tr : TA} (h : EvX te Ps P) (hr : EvA tr Ps Qs) : EvA (tCons te tr) Ps (P :: Qs) := fun F H σ e s Q q =>
  h F H σ e s _ fun v F1 H1 g1 p1 => hr F1 H1 σ g1.fh (s.up g1.ff) _ fun vs F2 H2 g2 p2 => q _ F2 H2 (g1.trans g2) (.cons (P.up _ _ _ g2.ff p1) p2)
theorem x_tupD {tl : TA} (h : EvA tl Ps (ts.map Dat)) (hl : ts.length ≤ sizeLine) : EvX (tTup tl) Ps (Dat (.tup ts)) := ev_tup (x_tup h (by rw [List.length_map]; exact hl))
/-- t[i] -/
theorem x_ix (ha : EvX ta Ps (TupP Qs)) (hb : EvX tb Ps (Dat (.int i))) {n : Nat} (hi : ixN Qs.length i = some n) (hn : Qs[n]? = some P) : EvX (tOp (rIxT K) ta tb) Ps P :=
  x_op ha hb fun F H x y e ⟨a, xs, h1, h2, h3⟩ p2 Q q => by
    obtain ⟨v, k1, k2⟩ := h3.get hn
    refine ⟨a, xs, i, v, h1, dat_int p2, SqT.of (e _ _ h2), ?_, q v F H (.refl e) k2⟩
    unfold atI
    rw [← h3.len, hi]
    exact k1
theorem ixN_at {n j : Nat} (hj : j < n) : ixN n (j : Int) = some j := by
  unfold ixN
  rw [if_pos (by omega), if_pos (by omega)]
  simp
theorem ixN_lt {n : Nat} {i : Int} (h0 : 0 ≤ i) (h : i < n) : ixN n i = some i.toNat := by
  unfold ixN
  rw [if_pos h0, if_pos h]
theorem ixN_m1 {n : Nat} (h : 0 < n) : ixN n (-1) = some (n - 1) := by
  unfold ixN
  rw [if_neg (by omega), if_pos (by omega)]
  congr 1
  omega
theorem getElem?_lt {α : Type} {l : List α} {n : Nat} {x : α} (h : l[n]? = some x) : n < l.length := (List.getElem?_eq_some_iff.mp h).1
theorem x_ixD (ha : EvX ta Ps (Dat (.tup ts))) (hb : EvX tb Ps (Dat (.int i))) {n : Nat} (hi : ixN ts.length i = some n) (hn : ts[n]? = some t) : EvX (tOp (rIxT K) ta tb) Ps (Dat t) :=
  x_ix (ev_untup ha) hb (n := n) (by rw [List.length_map]; exact hi) (by rw [List.getElem?_map, hn]; rfl)
/-- t[3], a written place -/
theorem x_ixC {n : Nat} (ha : EvX ta Ps (Dat (.tup ts))) (hn : ts[n]? = some t) : EvX (tOp (rIxT K) ta (tC (.int (n : Int)))) Ps (Dat t) := x_ixD ha x_int (ixN_at (getElem?_lt hn)) hn
/-- t[j], j another value -/
theorem x_ixV {n : Nat} (ha : EvX ta Ps (Dat (.tup ts))) (hb : EvX tb Ps (Dat (.int (n : Int)))) (hn : ts[n]? = some t) : EvX (tOp (rIxT K) ta tb) Ps (Dat t) := x_ixD ha hb (ixN_at (getElem?_lt hn)) hn
theorem x_ixP {n : Nat} (ha : EvX ta Ps (TupP Qs)) (hb : EvX tb Ps (Dat (.int (n : Int)))) (hn : Qs[n]? = some P) : EvX (tOp (rIxT K) ta tb) Ps P := x_ix ha hb (ixN_at (getElem?_lt hn)) hn
theorem x_ixL {n : Nat} (ha : EvX ta Ps (LstP Qs)) (hb : EvX tb Ps (Dat (.int (n : Int)))) (hn : Qs[n]? = some P) : EvX (tOp (rIxL K) ta tb) Ps P :=
  x_op ha hb fun F H x y e ⟨a, xs, h1, h2, h3⟩ p2 Q q => by
    obtain ⟨v, k1, k2⟩ := h3.get hn
    exact ⟨a, xs, n, v, h1, dat_int p2, SqL.of (e _ _ h2), atI_nat k1, q v F H (.refl e) k2⟩
/-- t + u -/
theorem x_cat (ha : EvX ta Ps (TupP Qs)) (hb : EvX tb Ps (TupP Rs)) (hl : Qs.length + Rs.length ≤ sizeLine) : EvX (tOp (rCatA K) ta tb) Ps (TupP (Qs ++ Rs)) :=
  x_op ha hb fun F H x y e ⟨a, xs, h1, h2, h3⟩ ⟨a', ys, h1', h2', h3'⟩ Q q => by
    refine ⟨a, a', xs, ys, h1, h1', SqT.of (e _ _ h2), SqT.of (e _ _ h2'), by rw [← h3.len, ← h3'.len]; exact hl, fun z => ?_, fun _ z => ?_, fun _ _ p hp => ?_⟩
    · subst z
      cases h3
      exact q _ F H (.refl e) ⟨a', ys, rfl, h2', h3'⟩
    · subst z
      cases h3'
      exact q _ F H (.refl e) ⟨a, xs, rfl, h2, by rw [List.append_nil]; exact h3⟩
    · exact q _ _ _ (.new e hp) ⟨p, xs ++ ys, rfl, upd_same, (h3.append h3').up (Same.upd_new (e.free hp))⟩
theorem x_catD (ha : EvX ta Ps (Dat (.tup ts))) (hb : EvX tb Ps (Dat (.tup us))) (hl : ts.length + us.length ≤ sizeLine) : EvX (tOp (rCatA K) ta tb) Ps (Dat (.tup (ts ++ us))) :=
  ev_tup (by rw [List.map_append]; exact x_cat (ev_untup ha) (ev_untup hb) (by rw [List.length_map, List.length_map]; exact hl))
/-- lists: l + m -/
theorem x_catL (ha : EvX ta Ps (LstP Qs)) (hb : EvX tb Ps (LstP Rs)) (hl : Qs.length + Rs.length ≤ sizeLine) : EvX (tOp rCat ta tb) Ps (LstP (Qs ++ Rs)) :=
  x_op ha hb fun F H x y e ⟨a, xs, h1, h2, h3⟩ ⟨a', ys, h1', h2', h3'⟩ Q q =>
    ⟨a, a', xs, ys, h1, h1', e _ _ h2, e _ _ h2', by rw [← h3.len, ← h3'.len]; exact hl, fun p hp => q _ _ _ (.new e hp) ⟨p, xs ++ ys, rfl, upd_same, (h3.append h3').up (Same.upd_new (e.free hp))⟩⟩
/-! slices -/
def cutG {α : Type} (xs : List α) (lo hi : Option Int) : List α := (xs.drop (HT.sIx xs.length 0 lo)).take (HT.sIx xs.length xs.length hi - HT.sIx xs.length 0 lo)
theorem cutG_all {α : Type} {xs : List α} {lo hi : Option Int} (h : HT.sIx xs.length 0 lo = 0 ∧ HT.sIx xs.length xs.length hi = xs.length) : cutG xs lo hi = xs := by
  unfold cutG
  rw [h.1, h.2, List.drop_zero, Nat.sub_zero, List.take_length]
theorem cut_to {α : Type} (xs : List α) (n : Nat) : cutG xs none (some (n : Int)) = xs.take n := by
  unfold cutG
  rw [HT.sIx_none, HT.sIx_nat, List.drop_zero, Nat.sub_zero]
  by_cases h : n ≤ xs.length
  · rw [Nat.min_eq_left h]
  · rw [Nat.min_eq_right (by omega), List.take_length, List.take_of_length_le (by omega)]
theorem cut_from {α : Type} (xs : List α) (n : Nat) : cutG xs (some (n : Int)) none = xs.drop n := by
  unfold cutG
  rw [HT.sIx_none, HT.sIx_nat]
  by_cases h : n ≤ xs.length
  · rw [Nat.min_eq_left h, List.take_of_length_le (by rw [List.length_drop]; omega)]
  · rw [Nat.min_eq_right (by omega), Nat.sub_self, List.take_zero, List.drop_eq_nil_of_le (by omega)]
theorem cut_last {α : Type} (xs : List α) : cutG xs none (some (-1)) = xs.dropLast := by
  unfold cutG
  have e : HT.sIx xs.length xs.length (some (-1)) = xs.length - 1 := by
    simp only [HT.sIx]
    rw [if_pos (by omega)]
    omega
  rw [HT.sIx_none, e, List.drop_zero, Nat.sub_zero, List.dropLast_eq_take]
theorem cut_from_last {α : Type} (xs : List α) : cutG xs (some (-1)) none = xs.drop (xs.length - 1) := by
  unfold cutG
  have e : HT.sIx xs.length 0 (some (-1)) = xs.length - 1 := by
    simp only [HT.sIx]
    rw [if_pos (by omega)]
    omega
  rw [HT.sIx_none, e, List.take_of_length_le (by rw [List.length_drop]; omega)]
theorem AllP.cut {H : Hp} {vs : List V} {lo hi : Option Int} (h : AllP H Qs vs) : AllP H (cutG Qs lo hi) (cutV vs lo hi) := by
  unfold cutG cutV
  rw [h.len]
  exact (h.drop _).take _
theorem o_none : EvO tNoPart Ps none := fun F H σ e s Q q => q F H (.refl e)
theorem o_some (h : EvX te Ps (Dat (.int i))) : EvO (tPart te) Ps (some i) := fun F H σ e s Q q => h F H σ e s _ fun v F1 H1 g1 p1 => ⟨i, dat_int p1, q F1 H1 g1⟩
theorem x_sl {r : V → Option Int → Option Int → Hp → VK → Prop} {tl th : TO} {lo hi : Option Int} (h : EvX te Ps P) (h1 : EvO tl Ps lo) (h2 : EvO th Ps hi)
    (hr : ∀ F H x, Same F H → P.p F x → ∀ Q : VK, (∀ v F' H', Gr F H F' H' → R.p F' v → Q v H') → r x lo hi H Q) : EvX (tSl r te tl th) Ps R := fun F H σ e s Q q =>
  h F H σ e s _ fun v F1 H1 g1 p1 => h1 F1 H1 σ g1.fh (s.up g1.ff) _ fun F2 H2 g2 => h2 F2 H2 σ g2.fh (s.up (g1.trans g2).ff) _ fun F3 H3 g3 =>
    hr F3 H3 v g3.fh (P.up _ _ _ (g2.trans g3).ff p1) Q fun u F4 H4 g4 p4 => q u F4 H4 (((g1.trans g2).trans g3).trans g4) p4
theorem x_slT {tl th : TO} {lo hi : Option Int} (h : EvX te Ps (TupP Qs)) (h1 : EvO tl Ps lo) (h2 : EvO th Ps hi) (he : cutG Qs lo hi = Rs) : EvX (tSl (rSlA K) te tl th) Ps (TupP Rs) :=
  x_sl h h1 h2 fun F H x e ⟨a, xs, k1, k2, k3⟩ Q q => by
    subst he
    refine ⟨a, xs, k1, SqT.of (e _ _ k2), fun z => ?_, fun _ p hp => q _ _ _ (.new e hp) ⟨p, _, rfl, upd_same, k3.cut.up (Same.upd_new (e.free hp))⟩⟩
    rw [cutG_all (by rw [k3.len]; exact z)] at q
    exact q _ F H (.refl e) ⟨a, xs, rfl, k2, k3⟩
theorem cutG_map {α β : Type} (f : α → β) (xs : List α) (lo hi : Option Int) : cutG (xs.map f) lo hi = (cutG xs lo hi).map f := by
  unfold cutG
  rw [List.length_map, List.map_take, List.map_drop]
theorem x_slD {tl th : TO} {lo hi : Option Int} (h : EvX te Ps (Dat (.tup ts))) (h1 : EvO tl Ps lo) (h2 : EvO th Ps hi) (he : cutG ts lo hi = us) : EvX (tSl (rSlA K) te tl th) Ps (Dat (.tup us)) :=
  ev_tup (x_slT (ev_untup h) h1 h2 (by rw [cutG_map, he]))
theorem x_slL {tl th : TO} {lo hi : Option Int} (h : EvX te Ps (LstP Qs)) (h1 : EvO tl Ps lo) (h2 : EvO th Ps hi) (he : cutG Qs lo hi = Rs) : EvX (tSl (rSlL K) te tl th) Ps (LstP Rs) :=
  x_sl h h1 h2 fun F H x e ⟨a, xs, k1, k2, k3⟩ Q q => by
    subst he
    exact ⟨a, xs, k1, SqL.of (e _ _ k2), fun p hp => q _ _ _ (.new e hp) ⟨p, _, rfl, upd_same, k3.cut.up (Same.upd_new (e.free hp))⟩⟩
/-! tests -/
theorem x_test (h : EvX te Ps (Dat (.bl b))) : EvT (tTest te) Ps b := fun F H σ e s Q q => h F H σ e s _ fun v F1 H1 g1 p1 => ⟨b, dat_bl p1, q F1 H1 g1⟩
theorem x_tB (h : EvX te Ps (Dat (.bl b))) : EvT (tB te) Ps b := fun F H σ e s Q q => h F H σ e s _ fun v F1 H1 g1 p1 => ⟨b, dat_bl p1, q F1 H1 g1⟩
theorem x_and (h1 : EvT tt Ps b) (h2 : b = true → EvT tu Ps c) : EvT (tAnd tt tu) Ps (b && c) := fun F H σ e s Q q => h1 F H σ e s _ fun F1 H1 g1 => by
  cases b with
  | true => exact h2 rfl F1 H1 σ g1.fh (s.up g1.ff) Q fun F2 H2 g2 => q F2 H2 (g1.trans g2)
  | false => exact q F1 H1 g1
theorem x_or (h1 : EvT tt Ps b) (h2 : b = false → EvT tu Ps c) : EvT (tOr tt tu) Ps (b || c) := fun F H σ e s Q q => h1 F H σ e s _ fun F1 H1 g1 => by
  cases b with
  | true => exact q F1 H1 g1
  | false => exact h2 rfl F1 H1 σ g1.fh (s.up g1.ff) Q fun F2 H2 g2 => q F2 H2 (g1.trans g2)
theorem x_not (h1 : EvT tt Ps b) : EvT (tNot tt) Ps (!b) := fun F H σ e s Q q => h1 F H σ e s _ fun F1 H1 g1 => q F1 H1 g1
theorem x_andV (h1 : EvX ta Ps (Dat (.bl b))) (h2 : b = true → EvX tb Ps (Dat (.bl c))) : EvX (tAndV ta tb) Ps (Dat (.bl (b && c))) := fun F H σ e s Q q => h1 F H σ e s _ fun v F1 H1 g1 p1 => ⟨b, dat_bl p1, by
  cases b with
  | true => exact h2 rfl F1 H1 σ g1.fh (s.up g1.ff) Q fun v F2 H2 g2 p2 => q v F2 H2 (g1.trans g2) p2
  | false => exact q _ F1 H1 g1 (.bl _)⟩
theorem x_orV (h1 : EvX ta Ps (Dat (.bl b))) (h2 : b = false → EvX tb Ps (Dat (.bl c))) : EvX (tOrV ta tb) Ps (Dat (.bl (b || c))) := fun F H σ e s Q q => h1 F H σ e s _ fun v F1 H1 g1 p1 => ⟨b, dat_bl p1, by
  cases b with
  | true => exact q _ F1 H1 g1 (.bl _)
  | false => exact h2 rfl F1 H1 σ g1.fh (s.up g1.ff) Q fun v F2 H2 g2 p2 => q v F2 H2 (g1.trans g2) p2⟩
theorem x_notV (h1 : EvX ta Ps (Dat (.bl b))) : EvX (tNotV ta) Ps (Dat (.bl (!b))) := fun F H σ e s Q q => h1 F H σ e s _ fun v F1 H1 g1 p1 => ⟨b, dat_bl p1, q _ F1 H1 g1 (.bl _)⟩
theorem x_ifE (h : EvT tt Ps b) (h1 : b = true → EvX ta Ps P) (h2 : b = false → EvX tb Ps P) : EvX (tIf tt ta tb) Ps P := fun F H σ e s Q q => h F H σ e s _ fun F1 H1 g1 => by
  cases b with
  | true => exact h1 rfl F1 H1 σ g1.fh (s.up g1.ff) Q fun v F2 H2 g2 p2 => q v F2 H2 (g1.trans g2) p2
  | false => exact h2 rfl F1 H1 σ g1.fh (s.up g1.ff) Q fun v F2 H2 g2 p2 => q v F2 H2 (g1.trans g2) p2
/-- a builtin by name -/
theorem x_cb {r : List V → Hp → VK → Prop} {tl : TA} (h : EvA tl Ps Qs) (hr : ∀ F H vs, Same F H → AllP F Qs vs → ∀ Q : VK, (∀ v F' H', Gr F H F' H' → R.p F' v → Q v H') → r vs H Q) : EvX (tCB r tl) Ps R := fun F H σ e s Q q =>
  h F H σ e s _ fun vs F1 H1 g1 p1 => hr F1 H1 vs g1.fh p1 Q fun v F2 H2 g2 p2 => q v F2 H2 (g1.trans g2) p2
end
end G
set_option Elab.async false
set_option linter.all false
set_option maxRecDepth 100000
set_option maxHeartbeats 4000000
namespace G
open PySem PySem.Spec PyProof.Rows L2

/-! ### Lean types written as nested tuples -/
class Enc (α : Type) [DecidableEq α] where
  enc : α → T
  eqv : ∀ a b, PyData.eqv (enc a).data (enc b).data = decide (a = b)
  lay : ∀ a, (enc a).data.canLay0 = true
  dep : Nat
  dep_le : ∀ a, (enc a).data.depth ≤ dep

open Enc (enc)
theorem datas_map {α : Type} (f : α → T) : ∀ as : List α, T.datas (as.map f) = as.map fun a => (f a).data
  | [] => rfl
  | a :: as => by
    show (f a).data :: T.datas (as.map f) = _
    rw [datas_map f as]
    rfl
instance : Enc Int where
  enc i := .int i
  eqv a b := by
    simp only [T.data, PyData.eqv]
    exact PySem.W.beq_decide a b
  lay _ := rfl
  dep := 0
  dep_le _ := Nat.le_refl _
instance : Enc Nat where
  enc i := .int i
  eqv a b := by
    simp only [T.data, PyData.eqv]
    by_cases h : a = b
    · subst h; simp
    · rw [decide_eq_false h]
      exact beq_eq_false_iff_ne.mpr (by omega)
  lay _ := rfl
  dep := 0
  dep_le _ := Nat.le_refl _
section
variable {α β : Type} [DecidableEq α] [Enc α] [DecidableEq β] [Enc β]
theorem encs_eqv : ∀ as bs : List α, PyData.eqvAll (T.datas (as.map enc)) (T.datas (bs.map enc)) = decide (as = bs)
  | [], [] => rfl
  | [], _ :: _ => rfl
  | _ :: _, [] => rfl
  | a :: as, b :: bs => by
    show (PyData.eqv (enc a).data (enc b).data && PyData.eqvAll (T.datas (as.map enc)) (T.datas (bs.map enc))) = _
    rw [Enc.eqv, encs_eqv as bs, ← Bool.decide_and]
    exact decide_eq_decide.mpr ⟨fun ⟨h1, h2⟩ => by rw [h1, h2], fun h => by cases h; exact ⟨rfl, rfl⟩⟩
theorem encs_lay : ∀ as : List α, PyData.canLayAll0 (T.datas (as.map enc)) = true
  | [] => rfl
  | a :: as => by
    show ((enc a).data.canLay0 && PyData.canLayAll0 (T.datas (as.map enc))) = true
    rw [Enc.lay, encs_lay as]
    rfl
theorem encs_dep : ∀ as : List α, PyData.depthAll (T.datas (as.map enc)) ≤ Enc.dep α
  | [] => Nat.zero_le _
  | a :: as => Nat.max_le.mpr ⟨Enc.dep_le a, encs_dep as⟩
abbrev encs (as : List α) : T := .tup (as.map enc)
instance : Enc (List α) where
  enc as := .tup (as.map enc)
  eqv as bs := by simp only [T.data, PyData.eqv]; exact encs_eqv as bs
  lay as := by simp only [T.data, PyData.canLay0]; exact encs_lay as
  dep := Enc.dep α + 1
  dep_le as := by simp only [T.data, PyData.depth]; exact Nat.succ_le_succ (encs_dep as)
instance : Enc (α × β) where
  enc p := .tup [enc p.1, enc p.2]
  eqv p q := by
    simp only [T.data, T.datas, PyData.eqv, PyData.eqvAll]
    rw [Enc.eqv, Enc.eqv, Bool.and_true, ← Bool.decide_and]
    exact decide_eq_decide.mpr ⟨fun e => Prod.ext e.1 e.2, fun e => by rw [e]; exact ⟨rfl, rfl⟩⟩
  lay p := by simp only [T.data, T.datas, PyData.canLay0, PyData.canLayAll0, Enc.lay, Bool.and_self]
  dep := max (Enc.dep α) (Enc.dep β) + 1
  dep_le p := by
    simp only [T.data, T.datas, PyData.depth, PyData.depthAll]
    have h1 := Enc.dep_le p.1
    have h2 := Enc.dep_le p.2
    omega
theorem shaped_enc (a : α) (h : Enc.dep α ≤ 62) : SeqAt.shaped (enc a).data = true := by
  have := Enc.dep_le a
  unfold SeqAt.shaped
  rw [Enc.lay, Bool.true_and]
  exact decide_eq_true (by omega)
theorem shaped_list (as : List α) (h : Enc.dep α ≤ 62) : SeqAt.shaped (.list (T.datas (as.map enc))) = true := by
  have := encs_dep as
  unfold SeqAt.shaped
  simp only [PyData.canLay0, PyData.depth, encs_lay, Bool.true_and]
  exact decide_eq_true (by omega)
theorem shaped_tuple (as : List α) (h : Enc.dep α ≤ 62) : SeqAt.shaped (.tuple (T.datas (as.map enc))) = true := by
  have := encs_dep as
  unfold SeqAt.shaped
  simp only [PyData.canLay0, PyData.depth, encs_lay, Bool.true_and]
  exact decide_eq_true (by omega)
theorem any_enc (as : List α) (a : α) : ((T.datas (as.map enc)).any fun z => PyData.eqv z (enc a).data) = decide (a ∈ as) := by
  induction as with
  | nil => rfl
  | cons b as ih =>
    show (PyData.eqv (enc b).data (enc a).data || (T.datas (as.map enc)).any fun z => PyData.eqv z (enc a).data) = _
    rw [ih, Enc.eqv, ← Bool.decide_or]
    exact decide_eq_decide.mpr ⟨fun h => h.elim (fun e => by rw [e]; exact List.mem_cons_self) (List.mem_cons_of_mem _), fun h => (List.mem_cons.mp h).imp Eq.symm id⟩
theorem enc_inj {a b : α} (h : enc a = enc b) : a = b := by
  have := Enc.eqv a b
  rw [h, Enc.eqv, decide_eq_true rfl] at this
  exact of_decide_eq_true this.symm
end

/-! ### the rules under names of their own -/
section
variable {X : Cx}
def rAddI : R2 := rI0 fun i j => .int (i + j)
def rSubI : R2 := rI0 fun i j => .int (i - j)
def rMulI : R2 := rI CMul fun i j => .int (i * j)
def rDivI : R2 := rI CDiv fun i j => .int (i / j)
def rModI : R2 := rI (fun _ j => 0 < j) fun i j => .int (i % j)
def rPowI : R2 := rI CPow fun i j => .int (i ^ j.toNat)
def rLtI : R2 := rI0 fun i j => .bl (decide (i < j))
def rLeI : R2 := rI0 fun i j => .bl (decide (i ≤ j))
def rGtI : R2 := rI0 fun i j => .bl (decide (j < i))
def rGeI : R2 := rI0 fun i j => .bl (decide (j ≤ i))
def rEqS : R2 := rEq
def rNeS : R2 := rNe
def rIsNon : R2 := fun x y H Q => y = .non ∧ Q (.bl (decide (x = .non))) H
def rNotNon : R2 := fun x y H Q => y = .non ∧ Q (.bl (!decide (x = .non))) H
theorem oAddI : OpR X (binaryOp .Add) rAddI := op_add
theorem oSubI : OpR X (binaryOp .Sub) rSubI := op_sub
theorem oMulI : OpR X (binaryOp .Mult) rMulI := op_mul
theorem oDivI : OpR X (binaryOp .FloorDiv) rDivI := op_fdiv
theorem oModI : OpR X (binaryOp .Mod) rModI := op_mod
theorem oPowI : OpR X (binaryOp .Pow) rPowI := op_pow
theorem oLtI : OpR X (compareOp .Lt) rLtI := op_lt
theorem oLeI : OpR X (compareOp .LtE) rLeI := op_le
theorem oGtI : OpR X (compareOp .Gt) rGtI := op_gt
theorem oGeI : OpR X (compareOp .GtE) rGeI := op_ge
theorem oEqS : OpR X (compareOp .Eq) rEqS := op_eq
theorem oNeS : OpR X (compareOp .NotEq) rNeS := op_ne
theorem oIsN : OpR X (compareOp .Is) rIsNon := op_isN
theorem oNotN : OpR X (compareOp .IsNot) rNotNon := op_notN
def rNegI : V → Hp → VK → Prop := rU fun i => .int (-i)
theorem uNeg : UnR X (unaryOp .USub) rNegI := un_neg
/-- x in t, a tuple of data -/
def rInT (K : PySem.W.Frag) : R2 := fun x y H Q => ∃ d ds, Dp K H x d ∧ Dp K H y (.tuple ds) ∧ SeqAt.shaped d = true ∧ SeqAt.shaped (.tuple ds) = true ∧ Q (.bl (ds.any fun z => PyData.eqv z d)) H
theorem room_t {A : Around} {d : PyData} {ds : List PyData} (h : SeqAt.shaped d = true) (hu : A.units + 65 < cLine) : A.units + 1 + min (PyData.depthAll ds) d.depth < cLine := by
  have h1 := SeqAt.depth_of_shaped h
  have h2 : min (PyData.depthAll ds) d.depth ≤ d.depth := Nat.min_le_right _ _
  omega
theorem oInT (hu : X.A.units + 65 < cLine) : OpR X (compareOp .In) (rInT X.K) := fun pins s σ H x y v u Q I rx ry h => by
  obtain ⟨d, ds, hd, he, sd, se, q⟩ := h
  obtain ⟨as, r1⟩ := Dp.reads I d x v hd rx
  obtain ⟨bs, r2⟩ := Dp.reads I (.tuple ds) y u he ry
  exact SeqAt.in_tuple_reads r2 r1 (SeqAt.canLay_of_shaped se) (SeqAt.canLay_of_shaped sd) (room_t sd hu) ⟨.bl _, H, I, rfl, q⟩
theorem hu65 {A : Around} {k : Nat} (hr : Room (k + 2) A) : A.units + 65 < cLine := by have := hr.un; omega
/-! calls -/
def rLenG (K : PySem.W.Frag) : List V → Hp → VK → Prop := fun xs H Q => ∃ p ys, xs = [.ref p] ∧ (SqL K H p ys ∨ SqT K H p ys) ∧ Q (.int ys.length) H
theorem cLen : CallR X (.builtin "len") (rLenG X.K) := call_len_seq
def rLenS : List V → Hp → VK → Prop := fun xs H Q => ∃ z, xs = [.str z] ∧ z.length ≤ sizeLine ∧ Q (.int z.length) H
theorem cLenS : CallR X (.builtin "len") rLenS := call_len_str
def rAbs : List V → Hp → VK → Prop := fun xs H Q => ∃ i, xs = [.int i] ∧ Q (.int (if i < 0 then -i else i)) H
theorem cAbs : CallR X (.builtin "abs") rAbs := call_abs
def rMin2 : List V → Hp → VK → Prop := fun xs H Q => ∃ i j, xs = [.int i, .int j] ∧ Q (.int (if j < i then j else i)) H
theorem cMin2 (hc : X.calm = true) : CallR X (.builtin "min") rMin2 := call_min2 hc
def rIntC : List V → Hp → VK → Prop := fun xs H Q => (∃ i, xs = [.int i] ∧ Q (.int i) H) ∨ ∃ k, xs = [.bl k] ∧ Q (.int (if k then 1 else 0)) H
theorem cInt : CallR X (.type "int") rIntC := call_int1
def rTupOf (K : PySem.W.Frag) : List V → Hp → VK → Prop := fun xs H Q => ∃ p ys, xs = [.ref p] ∧ ((SqL K H p ys ∧ ∀ l, H l = none → Q (.ref l) (upd H l (.tup ys))) ∨ (SqT K H p ys ∧ Q (.ref p) H))
theorem cTup : CallR X (.type "tuple") (rTupOf X.K) := call_tuple_of
theorem cAll (hc : X.calm = true) : CallR X (.builtin "all") (rAll X.K) := cr_all hc
end

section
variable {K : PySem.W.Frag} {Ps : Tys} {P P' R : Ty} {ta tb te : TE} {tt tu : TT} {b c : Bool} {i j : Int} {s t u : T} {ts us : List T} {Qs Rs : List Ty} {x y : Str}
theorem e_add (ha : EvX ta Ps (Dat (.int i))) (hb : EvX tb Ps (Dat (.int j))) : EvX (tOp rAddI ta tb) Ps (Dat (.int (i + j))) := x_opi ha hb
theorem e_sub (ha : EvX ta Ps (Dat (.int i))) (hb : EvX tb Ps (Dat (.int j))) : EvX (tOp rSubI ta tb) Ps (Dat (.int (i - j))) := x_opi ha hb
theorem e_mul (ha : EvX ta Ps (Dat (.int i))) (hb : EvX tb Ps (Dat (.int j))) (h : CMul i j) : EvX (tOp rMulI ta tb) Ps (Dat (.int (i * j))) := x_opc ha hb h
theorem e_div (ha : EvX ta Ps (Dat (.int i))) (hb : EvX tb Ps (Dat (.int j))) (h : CDiv i j) : EvX (tOp rDivI ta tb) Ps (Dat (.int (i / j))) := x_opc ha hb h
theorem e_mod (ha : EvX ta Ps (Dat (.int i))) (hb : EvX tb Ps (Dat (.int j))) (h : 0 < j) : EvX (tOp rModI ta tb) Ps (Dat (.int (i % j))) := x_opI ha hb h fun _ => .int _
theorem e_pow (ha : EvX ta Ps (Dat (.int i))) (hb : EvX tb Ps (Dat (.int j))) (h : CPow i j) : EvX (tOp rPowI ta tb) Ps (Dat (.int (i ^ j.toNat))) := x_opc ha hb h
theorem e_neg (ha : EvX ta Ps (Dat (.int i))) : EvX (tUn rNegI ta) Ps (Dat (.int (-i))) := x_un ha fun F H x e p Q q => ⟨i, dat_int p, q _ F H (.refl e) (.int _)⟩
theorem e_lt (ha : EvX ta Ps (Dat (.int i))) (hb : EvX tb Ps (Dat (.int j))) : EvX (tOp rLtI ta tb) Ps (Dat (.bl (decide (i < j)))) := x_opb ha hb
theorem e_le (ha : EvX ta Ps (Dat (.int i))) (hb : EvX tb Ps (Dat (.int j))) : EvX (tOp rLeI ta tb) Ps (Dat (.bl (decide (i ≤ j)))) := x_opb ha hb
theorem e_gt (ha : EvX ta Ps (Dat (.int i))) (hb : EvX tb Ps (Dat (.int j))) : EvX (tOp rGtI ta tb) Ps (Dat (.bl (decide (j < i)))) := x_opI0 ha hb fun _ => .bl _
theorem e_ge (ha : EvX ta Ps (Dat (.int i))) (hb : EvX tb Ps (Dat (.int j))) : EvX (tOp rGeI ta tb) Ps (Dat (.bl (decide (j ≤ i)))) := x_opI0 ha hb fun _ => .bl _
theorem dec_iff {p q : Prop} [Decidable p] [Decidable q] (h : p ↔ q) : decide p = decide q := decide_eq_decide.mpr h
theorem e_eqI (ha : EvX ta Ps (Dat (.int i))) (hb : EvX tb Ps (Dat (.int j))) : EvX (tOp rEqS ta tb) Ps (Dat (.bl (decide (i = j)))) :=
  x_op ha hb fun F H x y e p1 p2 Q q => by
    rw [dat_int p1, dat_int p2]
    exact ⟨rfl, q _ F H (.refl e) (by rw [dec_iff (p := V.int i = V.int j) (q := i = j) ⟨fun h => by cases h; rfl, fun h => by rw [h]⟩]; exact .bl _)⟩
theorem e_neI (ha : EvX ta Ps (Dat (.int i))) (hb : EvX tb Ps (Dat (.int j))) : EvX (tOp rNeS ta tb) Ps (Dat (.bl (!decide (i = j)))) :=
  x_op ha hb fun F H x y e p1 p2 Q q => by
    rw [dat_int p1, dat_int p2]
    exact ⟨rfl, q _ F H (.refl e) (by rw [dec_iff (p := V.int i = V.int j) (q := i = j) ⟨fun h => by cases h; rfl, fun h => by rw [h]⟩]; exact .bl _)⟩
theorem e_eqS (ha : EvX ta Ps (Dat (.str x))) (hb : EvX tb Ps (Dat (.str y))) : EvX (tOp rEqS ta tb) Ps (Dat (.bl (decide (x = y)))) :=
  x_op ha hb fun F H u v e p1 p2 Q q => by
    rw [dat_str p1, dat_str p2]
    exact ⟨rfl, q _ F H (.refl e) (by rw [dec_iff (p := V.str x = V.str y) (q := x = y) ⟨fun h => by cases h; rfl, fun h => by rw [h]⟩]; exact .bl _)⟩
theorem e_neS (ha : EvX ta Ps (Dat (.str x))) (hb : EvX tb Ps (Dat (.str y))) : EvX (tOp rNeS ta tb) Ps (Dat (.bl (!decide (x = y)))) :=
  x_op ha hb fun F H u v e p1 p2 Q q => by
    rw [dat_str p1, dat_str p2]
    exact ⟨rfl, q _ F H (.refl e) (by rw [dec_iff (p := V.str x = V.str y) (q := x = y) ⟨fun h => by cases h; rfl, fun h => by rw [h]⟩]; exact .bl _)⟩
theorem e_eqB (ha : EvX ta Ps (Dat (.bl b))) (hb : EvX tb Ps (Dat (.bl c))) : EvX (tOp rEqS ta tb) Ps (Dat (.bl (decide (b = c)))) :=
  x_op ha hb fun F H u v e p1 p2 Q q => by
    rw [dat_bl p1, dat_bl p2]
    exact ⟨rfl, q _ F H (.refl e) (by rw [dec_iff (p := V.bl b = V.bl c) (q := b = c) ⟨fun h => by cases h; rfl, fun h => by rw [h]⟩]; exact .bl _)⟩
theorem e_neB (ha : EvX ta Ps (Dat (.bl b))) (hb : EvX tb Ps (Dat (.bl c))) : EvX (tOp rNeS ta tb) Ps (Dat (.bl (!decide (b = c)))) :=
  x_op ha hb fun F H u v e p1 p2 Q q => by
    rw [dat_bl p1, dat_bl p2]
    exact ⟨rfl, q _ F H (.refl e) (by rw [dec_iff (p := V.bl b = V.bl c) (q := b = c) ⟨fun h => by cases h; rfl, fun h => by rw [h]⟩]; exact .bl _)⟩
theorem e_isN (ha : EvX ta Ps P) (h : ∀ F v, P.p F v → decide (v = .non) = b) : EvX (tOp rIsNon ta (tC .non)) Ps (Dat (.bl b)) :=
  x_op ha (x_non) fun F H x y e p1 p2 Q q => ⟨dat_non p2, by rw [h F x p1]; exact q _ F H (.refl e) (.bl _)⟩
theorem e_notN (ha : EvX ta Ps P) (h : ∀ F v, P.p F v → decide (v = .non) = b) : EvX (tOp rNotNon ta (tC .non)) Ps (Dat (.bl (!b))) :=
  x_op ha (x_non) fun F H x y e p1 p2 Q q => ⟨dat_non p2, by rw [h F x p1]; exact q _ F H (.refl e) (.bl _)⟩
theorem e_eqD (ha : EvX ta Ps (Dat t)) (hb : EvX tb Ps (Dat u)) (h1 : SeqAt.shaped t.data = true) (h2 : SeqAt.shaped u.data = true) : EvX (tOp (rEqD K) ta tb) Ps (Dat (.bl (PyData.eqv t.data u.data))) :=
  x_op ha hb fun F H x y e p1 p2 Q q => ⟨_, _, RT.dp t x (RT.up e t x p1), RT.dp u y (RT.up e u y p2), h1, h2, q _ F H (.refl e) (.bl _)⟩
theorem e_neD (ha : EvX ta Ps (Dat t)) (hb : EvX tb Ps (Dat u)) (h1 : SeqAt.shaped t.data = true) (h2 : SeqAt.shaped u.data = true) : EvX (tOp (rNeD K) ta tb) Ps (Dat (.bl (!PyData.eqv t.data u.data))) :=
  x_op ha hb fun F H x y e p1 p2 Q q => ⟨_, _, RT.dp t x (RT.up e t x p1), RT.dp u y (RT.up e u y p2), h1, h2, q _ F H (.refl e) (.bl _)⟩
section
variable {α : Type} [DecidableEq α] [Enc α] {a a' : α} {as as' : List α}
theorem e_eqE (ha : EvX ta Ps (Dat (enc a))) (hb : EvX tb Ps (Dat (enc a'))) (h : Enc.dep α ≤ 62 := by decide) : EvX (tOp (rEqD K) ta tb) Ps (Dat (.bl (decide (a = a')))) := by
  rw [← Enc.eqv a a']; exact e_eqD ha hb (shaped_enc a h) (shaped_enc a' h)
theorem e_neE (ha : EvX ta Ps (Dat (enc a))) (hb : EvX tb Ps (Dat (enc a'))) (h : Enc.dep α ≤ 62 := by decide) : EvX (tOp (rNeD K) ta tb) Ps (Dat (.bl (!decide (a = a')))) := by
  rw [← Enc.eqv a a']; exact e_neD ha hb (shaped_enc a h) (shaped_enc a' h)
theorem lst_dp {F H : Hp} {v : V} (e : Same F H) (h : (LstP (ts.map Dat)).p F v) : Dp K H v (.list (T.datas ts)) := by
  obtain ⟨a, xs, rfl, h1, h2⟩ := h
  exact .lst (SqL.of (e _ _ h1)) (RTs.dp ts xs (RTs.up e ts xs (rts_iff.mpr h2)))
theorem map_dat (as : List α) : as.map (fun a => Dat (enc a)) = (as.map enc).map Dat := by rw [List.map_map]; rfl
theorem e_eqL (ha : EvX ta Ps (LstP (as.map fun a => Dat (enc a)))) (hb : EvX tb Ps (LstP (as'.map fun a => Dat (enc a)))) (h : Enc.dep α ≤ 61 := by decide) : EvX (tOp (rEqD K) ta tb) Ps (Dat (.bl (decide (as = as')))) :=
  x_op ha hb fun F H x y e p1 p2 Q q => by
    rw [map_dat] at p1 p2
    have e1 : PyData.eqv (.list (T.datas (as.map enc))) (.list (T.datas (as'.map enc))) = decide (as = as') := by simp only [PyData.eqv]; exact encs_eqv as as'
    exact ⟨_, _, lst_dp e p1, lst_dp e p2, shaped_list as (by omega), shaped_list as' (by omega), by rw [e1]; exact q _ F H (.refl e) (.bl _)⟩
theorem e_neL (ha : EvX ta Ps (LstP (as.map fun a => Dat (enc a)))) (hb : EvX tb Ps (LstP (as'.map fun a => Dat (enc a)))) (h : Enc.dep α ≤ 61 := by decide) : EvX (tOp (rNeD K) ta tb) Ps (Dat (.bl (!decide (as = as')))) :=
  x_op ha hb fun F H x y e p1 p2 Q q => by
    rw [map_dat] at p1 p2
    have e1 : PyData.eqv (.list (T.datas (as.map enc))) (.list (T.datas (as'.map enc))) = decide (as = as') := by simp only [PyData.eqv]; exact encs_eqv as as'
    exact ⟨_, _, lst_dp e p1, lst_dp e p2, shaped_list as (by omega), shaped_list as' (by omega), by rw [e1]; exact q _ F H (.refl e) (.bl _)⟩
theorem e_inT (ha : EvX ta Ps (Dat (enc a))) (hb : EvX tb Ps (Dat (.tup (as.map enc)))) (h : Enc.dep α ≤ 61 := by decide) : EvX (tOp (rInT K) ta tb) Ps (Dat (.bl (decide (a ∈ as)))) :=
  x_op ha hb fun F H x y e p1 p2 Q q =>
    ⟨_, T.datas (as.map enc), RT.dp _ x (RT.up e _ x p1), RT.dp _ y (RT.up e _ y p2), shaped_enc a (by omega), shaped_tuple as (by omega), by rw [any_enc]; exact q _ F H (.refl e) (.bl _)⟩
theorem e_inL (ha : EvX ta Ps (Dat (enc a))) (hb : EvX tb Ps (LstP (as.map fun a => Dat (enc a)))) (h : Enc.dep α ≤ 61 := by decide) : EvX (tOp (rInD K) ta tb) Ps (Dat (.bl (decide (a ∈ as)))) :=
  x_op ha hb fun F H x y e p1 p2 Q q => by
    rw [map_dat] at p2
    exact ⟨_, _, RT.dp _ x (RT.up e _ x p1), lst_dp e p2, shaped_enc a (by omega), shaped_list as (by omega), by rw [any_enc]; exact q _ F H (.refl e) (.bl _)⟩
theorem e_ninL (ha : EvX ta Ps (Dat (enc a))) (hb : EvX tb Ps (LstP (as.map fun a => Dat (enc a)))) (h : Enc.dep α ≤ 61 := by decide) : EvX (tOp (rNotInD K) ta tb) Ps (Dat (.bl (!decide (a ∈ as)))) :=
  x_op ha hb fun F H x y e p1 p2 Q q => by
    rw [map_dat] at p2
    exact ⟨_, _, RT.dp _ x (RT.up e _ x p1), lst_dp e p2, shaped_enc a (by omega), shaped_list as (by omega), by rw [any_enc]; exact q _ F H (.refl e) (.bl _)⟩
end
/-- a text in a written tuple of texts -/
theorem inV_strs (x : Str) (ys : List Str) : inV (.str x) (ys.map V.str) = decide (x ∈ ys) := by
  induction ys with
  | nil => rfl
  | cons y ys ih =>
    show (eqV (.str y) (.str x) || inV (.str x) (ys.map V.str)) = _
    rw [ih]
    have e : eqV (.str y) (.str x) = decide (y = x) := by
      show (y == x) = _
      rw [Bool.eq_iff_iff, beq_iff_eq, decide_eq_true_eq]
    rw [e, ← Bool.decide_or]
    exact decide_eq_decide.mpr ⟨fun h => h.elim (fun e => by rw [e]; exact List.mem_cons_self) (List.mem_cons_of_mem _), fun h => (List.mem_cons.mp h).imp Eq.symm id⟩
theorem rts_strs {F : Hp} : ∀ {ys : List Str} {vs : List V}, AllP F ((ys.map T.str).map Dat) vs → vs = ys.map V.str
  | [], _, .nil => rfl
  | y :: ys, _, .cons h t => by rw [dat_str h, rts_strs t]; rfl
theorem e_inS {ys : List Str} (ha : EvX ta Ps (Dat (.str x))) (hb : EvX tb Ps (Dat (.tup (ys.map T.str)))) : EvX (tOp (rIn K false) ta tb) Ps (Dat (.bl (decide (x ∈ ys)))) :=
  x_op ha hb fun F H u v e p1 p2 Q q => by
    obtain ⟨a, xs, h1, h2, h3⟩ := dat_tup.mp p2
    rw [rts_strs h3] at h2
    refine ⟨a, ys.map V.str, h1, .inr (SqT.of (e _ _ h2)), by rw [dat_str p1]; rfl, ?_, ?_⟩
    · rw [List.all_map]; exact List.all_eq_true.mpr fun _ _ => rfl
    · rw [dat_str p1]
      show Q (.bl (inV _ _)) H
      rw [inV_strs]
      exact q _ F H (.refl e) (.bl _)
/-! calls of built-ins -/
theorem e_len (h : EvX te Ps (TupP Qs)) : EvX (tCB (rLenG K) (tCons te tNil)) Ps (Dat (.int Qs.length)) :=
  x_cb (a_cons h a_nil) fun F H vs e p Q q => by
    cases p with
    | cons p1 p2 =>
      cases p2
      obtain ⟨a, xs, rfl, h1, h2⟩ := p1
      exact ⟨a, xs, rfl, .inr (SqT.of (e _ _ h1)), q _ F H (.refl e) (by rw [← h2.len]; exact .int _)⟩
theorem e_lenD (h : EvX te Ps (Dat (.tup ts))) : EvX (tCB (rLenG K) (tCons te tNil)) Ps (Dat (.int ts.length)) := by
  have := e_len (K := K) (ev_untup h)
  rw [List.length_map] at this
  exact this
theorem e_lenL (h : EvX te Ps (LstP Qs)) : EvX (tCB (rLenG K) (tCons te tNil)) Ps (Dat (.int Qs.length)) :=
  x_cb (a_cons h a_nil) fun F H vs e p Q q => by
    cases p with
    | cons p1 p2 =>
      cases p2
      obtain ⟨a, xs, rfl, h1, h2⟩ := p1
      exact ⟨a, xs, rfl, .inl (SqL.of (e _ _ h1)), q _ F H (.refl e) (by rw [← h2.len]; exact .int _)⟩
theorem e_lenS (h : EvX te Ps (Dat (.str x))) (hx : x.length ≤ sizeLine) : EvX (tCB rLenS (tCons te tNil)) Ps (Dat (.int x.length)) :=
  x_cb (a_cons h a_nil) fun F H vs e p Q q => by
    cases p with
    | cons p1 p2 =>
      cases p2
      exact ⟨x, by rw [dat_str p1], hx, q _ F H (.refl e) (.int _)⟩
theorem e_abs (h : EvX te Ps (Dat (.int i))) : EvX (tCB rAbs (tCons te tNil)) Ps (Dat (.int (if i < 0 then -i else i))) :=
  x_cb (a_cons h a_nil) fun F H vs e p Q q => by
    cases p with
    | cons p1 p2 =>
      cases p2
      exact ⟨i, by rw [dat_int p1], q _ F H (.refl e) (.int _)⟩
theorem e_int (h : EvX te Ps (Dat (.int i))) : EvX (tCB rIntC (tCons te tNil)) Ps (Dat (.int i)) :=
  x_cb (a_cons h a_nil) fun F H vs e p Q q => by
    cases p with
    | cons p1 p2 =>
      cases p2
      exact .inl ⟨i, by rw [dat_int p1], q _ F H (.refl e) (.int _)⟩
theorem e_min (h : EvX ta Ps (Dat (.int i))) (h' : EvX tb Ps (Dat (.int j))) : EvX (tCB rMin2 (tCons ta (tCons tb tNil))) Ps (Dat (.int (if j < i then j else i))) :=
  x_cb (a_cons h (a_cons h' a_nil)) fun F H vs e p Q q => by
    cases p with
    | cons p1 p2 =>
      cases p2 with
      | cons p2 p3 =>
        cases p3
        exact ⟨i, j, by rw [dat_int p1, dat_int p2], q _ F H (.refl e) (.int _)⟩
/-- tuple(list) -/
theorem e_tupOf (h : EvX te Ps (LstP Qs)) : EvX (tCB (rTupOf K) (tCons te tNil)) Ps (TupP Qs) :=
  x_cb (a_cons h a_nil) fun F H vs e p Q q => by
    cases p with
    | cons p1 p2 =>
      cases p2
      obtain ⟨a, xs, rfl, h1, h2⟩ := p1
      exact ⟨a, xs, rfl, .inl ⟨SqL.of (e _ _ h1), fun l hl => q _ _ _ (.new e hl) ⟨l, xs, rfl, upd_same, h2.up (Same.upd_new (e.free hl))⟩⟩⟩
theorem e_tupOfD (h : EvX te Ps (LstP (ts.map Dat))) : EvX (tCB (rTupOf K) (tCons te tNil)) Ps (Dat (.tup ts)) := ev_tup (e_tupOf h)
/-- all of a list of truth values -/
theorem bls_of {F : Hp} : ∀ {bs : List Bool} {vs : List V}, AllP F (bs.map fun b => Dat (.bl b)) vs → vs = bs.map V.bl
  | [], _, .nil => rfl
  | b :: bs, _, .cons h t => by rw [dat_bl h, bls_of t]; rfl
theorem e_all {bs : List Bool} (h : EvX te Ps (LstP (bs.map fun b => Dat (.bl b)))) : EvX (tCB (rAll K) (tCons te tNil)) Ps (Dat (.bl (bs.all id))) :=
  x_cb (a_cons h a_nil) fun F H vs e p Q q => by
    cases p with
    | cons p1 p2 =>
      cases p2
      obtain ⟨a, xs, rfl, h1, h2⟩ := p1
      rw [bls_of h2] at h1
      exact ⟨a, bs, rfl, SqL.of (e _ _ h1), q _ F H (.refl e) (.bl _)⟩
/-! isinstance(x, T) -/
/-- the built-in type of a value -/
def tyName : T → String
  | .non => "NoneType" | .bl _ => "bool" | .int _ => "int" | .str _ => "str" | .tup _ => "tuple"
theorem dat_ty {F H : Hp} {v : V} (e : Same F H) : ∀ {t : T}, (Dat t).p F v → TyX K H v (.type (tyName t))
  | .non, h => by cases h; exact .base .non
  | .bl b, h => by cases h; exact .base (.bl b)
  | .int i, h => by cases h; exact .base (.int i)
  | .str x, h => by cases h; exact .base (.str x)
  | .tup ts, h => by
    cases h with
    | tup ha _ => exact .base (.tup (e _ _ ha))
theorem e_isi {n : String} (h : EvX te Ps (Dat t)) (hk : PySem.W.kitOne K (.type (tyName t)) (.type n) = some b) : EvX (tCB (rIsi K) (tCons te (tCons (tC (.ty n)) tNil))) Ps (Dat (.bl b)) :=
  x_cb (a_cons h (a_cons x_ty a_nil)) fun F H vs e p Q q => by
    cases p with
    | cons p1 p2 =>
      cases p2 with
      | cons p2 p3 =>
        cases p3
        cases p2
        exact ⟨_, _, _, _, b, rfl, .ty n, dat_ty e p1, hk, q _ F H (.refl e) (.bl _)⟩
theorem e_isiL {n : String} (h : EvX te Ps (LstP Qs)) (hk : PySem.W.kitOne K (.type "list") (.type n) = some b) : EvX (tCB (rIsi K) (tCons te (tCons (tC (.ty n)) tNil))) Ps (Dat (.bl b)) :=
  x_cb (a_cons h (a_cons x_ty a_nil)) fun F H vs e p Q q => by
    cases p with
    | cons p1 p2 =>
      cases p2 with
      | cons p2 p3 =>
        cases p3
        cases p2
        obtain ⟨a, xs, rfl, h1, h2⟩ := p1
        exact ⟨_, _, _, _, b, rfl, .ty n, .base (.lst (e _ _ h1)), hk, q _ F H (.refl e) (.bl _)⟩
end
end G
set_option Elab.async false
set_option linter.all false
set_option maxRecDepth 100000
set_option maxHeartbeats 4000000
namespace G
open PySem PySem.Spec PyProof.Rows L2

/-! ### objects with fields -/
abbrev Flds := List (Str × Ty)
abbrev FldP (F : Hp) (tfs : Flds) (fs : List (Str × V)) : Prop := Paired (fun (q : Str × Ty) (p : Str × V) => q.1 = p.1 ∧ q.2.p F p.2) tfs fs
section
variable {F F' : Hp} {tfs : Flds} {fs : List (Str × V)}
theorem FldP.up (e : Same F F') : ∀ {tfs : Flds} {fs : List (Str × V)}, FldP F tfs fs → FldP F' tfs fs
  | _, _, .nil => .nil
  | _, _, .cons h t => .cons ⟨h.1, Ty.up _ F F' _ e h.2⟩ (FldP.up e t)
theorem FldP.get {f : Str} {P : Ty} : ∀ {tfs : Flds} {fs : List (Str × V)}, FldP F tfs fs → tfs.lookup f = some P → ∃ v, fs.lookup f = some v ∧ P.p F v
  | _, _, .nil, e => by simp at e
  | (g, Q) :: tr, (g', v) :: fr, .cons h t, e => by
    obtain ⟨h1, h2⟩ := h
    cases h1
    rw [List.lookup_cons] at e ⊢
    cases q : f == g with
    | true =>
      rw [q] at e
      cases e
      exact ⟨v, rfl, h2⟩
    | false =>
      rw [q] at e
      exact FldP.get t e
theorem FldP.no {f : Str} : ∀ {tfs : Flds} {fs : List (Str × V)}, FldP F tfs fs → tfs.lookup f = none → fs.lookup f = none
  | _, _, .nil, _ => rfl
  | (g, Q) :: tr, (g', v) :: fr, .cons h t, e => by
    obtain ⟨h1, h2⟩ := h
    cases h1
    rw [List.lookup_cons] at e ⊢
    cases q : f == g with
    | true => rw [q] at e; cases e
    | false =>
      rw [q] at e
      exact FldP.no t e
def putT (f : Str) (P : Ty) : Flds → Flds
  | [] => [(f, P)]
  | (g, Q) :: r => if g = f then (g, P) :: r else (g, Q) :: putT f P r
theorem FldP.put {f : Str} {P : Ty} {v : V} (hv : P.p F v) : ∀ {tfs : Flds} {fs : List (Str × V)}, FldP F tfs fs → FldP F (putT f P tfs) (putF f v fs)
  | _, _, .nil => .cons ⟨rfl, hv⟩ .nil
  | (g, Q) :: tr, (g', w) :: fr, .cons h t => by
    obtain ⟨h1, h2⟩ := h
    cases h1
    show FldP F (if g = f then (g, P) :: tr else (g, Q) :: putT f P tr) (if g = f then (g, v) :: fr else (g, w) :: putF f v fr)
    by_cases e : g = f
    · rw [if_pos e, if_pos e]; exact .cons ⟨rfl, hv⟩ t
    · rw [if_neg e, if_neg e]; exact .cons ⟨rfl, h2⟩ (FldP.put hv t)
theorem FldP.len (h : FldP F tfs fs) : tfs.length = fs.length := Paired.length h
end
/-- a finished instance of the class at C -/
def InsP (C : Addr) (tfs : Flds) : Ty := ⟨fun H v => ∃ a dx fs, v = .ref a ∧ H a = some (.ins C dx fs) ∧ FldP H tfs fs, fun _ _ _ e ⟨a, dx, fs, h1, h2, h3⟩ => ⟨a, dx, fs, h1, e _ _ h2, h3.up e⟩⟩
/-- an instance that is not finished: known to the heap, not frozen -/
def Op (x C : Addr) (F H : Hp) (tfs : Flds) : Prop := F x = none ∧ ∃ dx fs, H x = some (.ins C dx fs) ∧ FldP F tfs fs
theorem Op.step {x C : Addr} {F H F' H' : Hp} {tfs : Flds} (o : Op x C F H tfs) (g : Gr F H F' H') : Op x C F' H' tfs := by
  obtain ⟨h1, dx, fs, h2, h3⟩ := o
  exact ⟨g.nw x (by rw [h2]; exact fun q => by cases q) h1, dx, fs, g.hh _ _ h2, h3.up g.ff⟩
/-- finished -/
theorem Op.done {x C : Addr} {F0 H0 F H : Hp} {tfs : Flds} (o : Op x C F H tfs) (g : Gr F0 H0 F H) (h0 : H0 x = none) : ∃ F', Gr F0 H0 F' H ∧ Same F F' ∧ (InsP C tfs).p F' (.ref x) := by
  obtain ⟨h1, dx, fs, h2, h3⟩ := o
  exact ⟨upd F x (.ins C dx fs), g.freeze h0 h1 h2, Same.upd_new h1, x, dx, fs, rfl, upd_same, h3.up (Same.upd_new h1)⟩
/-- what the text's class must have: its fields are no names of it -/
structure OwnC (K : PySem.W.Frag) (C : Addr) (fs : List Str) : Prop where
  cl : Cls K C
  na : ∀ f ∈ fs, NoAttr K C f

/-! ### promises of pure defs -/
abbrev PSp (ι : Type) := ι → List Ty × Ty
/-- called with values that are so, it hands back one that is so; what was frozen stays -/
def SpG {ι : Type} (pre : ι → Prop) (io : PSp ι) : Sp := fun vs H Q _ => ∃ i F, pre i ∧ Same F H ∧ AllP F (io i).1 vs ∧ ∀ v F' H', Gr F H F' H' → (io i).2.p F' v → Q v H'
/-- the same of an __init__: x is the new instance -/
def hid (H : Hp) (x : Addr) : Hp := fun a => if a = x then none else H a
theorem hid_same {H : Hp} {x : Addr} : hid H x x = none := if_pos rfl
theorem hid_ne {H : Hp} {x a : Addr} (h : a ≠ x) : hid H x a = H a := if_neg h
def SpN {ι : Type} (C : Addr) (pre : ι → Prop) (io : PSp ι) : Sp := fun vs H Q _ => ∃ i F x dx us, pre i ∧ vs = .ref x :: us ∧ Same F H ∧ F x = none ∧ H x = some (.ins C dx []) ∧ AllP F (io i).1 us ∧
  ∀ F' H', Gr F (hid H x) F' H' → (io i).2.p F' (.ref x) → Q .non H'
section
variable {K : PySem.W.Frag} {Ps : Tys} {P P' R : Ty} {te : TE} {tl : TA} {ι : Type} {pre : ι → Prop} {io : PSp ι} {C : Addr} {f m : Str} {tfs : Flds} {Rs : List Ty}
theorem x_fld (h : EvX te Ps (InsP C tfs)) {fs : List Str} (o : OwnC K C fs) (hf : f ∈ fs) (hl : tfs.lookup f = some P) : EvX (tFld K te f) Ps P := fun F H σ e s Q q =>
  h F H σ e s _ fun v F1 H1 g1 ⟨a, dx, vs, h1, h2, h3⟩ =>
    let ⟨u, k1, k2⟩ := h3.get hl
    ⟨a, C, dx, vs, u, h1, g1.fh _ _ h2, o.cl, o.na f hf, k1, q u F1 H1 g1 k2⟩
theorem x_call (i : ι) (hp : pre i) (h : EvA tl Ps (io i).1) {E : XK} (hP : (io i).2 = P) : EvX (tCall (SpG pre io) [] E tl) Ps P := fun F H σ e s Q q => by
  subst hP
  exact h F H σ e s _ fun vs F1 H1 g1 p1 => ⟨i, F1, hp, g1.fh, by rw [List.append_nil]; exact p1, fun v F2 H2 g2 p2 => q v F2 H2 (g1.trans g2) p2⟩
theorem x_meth (i : ι) (hp : pre i) (ho : EvX te Ps (InsP C tfs)) (hm : tfs.lookup m = none) (h : EvA tl Ps Rs) {E : XK} (hi : (io i).1 = InsP C tfs :: Rs) (hP : (io i).2 = P) : EvX (tMeth C m (SpG pre io) [] E te tl) Ps P := fun F H σ e s Q q => by
  subst hP
  exact ho F H σ e s _ fun v F1 H1 g1 p0 => by
    obtain ⟨a, dx, fs, h1, h2, h3⟩ := id p0
    exact ⟨a, dx, fs, h1, g1.fh _ _ h2, h3.no hm, h F1 H1 σ g1.fh (s.up g1.ff) _ fun vs F2 H2 g2 p2 =>
      ⟨i, F2, hp, g2.fh, by rw [hi, List.append_nil]; exact .cons ((InsP C tfs).up _ _ _ g2.ff p0) p2, fun v F3 H3 g3 p3 => q v F3 H3 ((g1.trans g2).trans g3) p3⟩⟩
theorem x_make (i : ι) (hp : pre i) (h : EvA tl Ps (io i).1) {E : XK} (hP : (io i).2 = P) : EvX (tMake C (SpN C pre io) [] E tl) Ps P := fun F H σ e s Q q => by
  subst hP
  refine h F H σ e s _ fun vs F1 H1 g1 p1 => fun x dx hx hdx ne => ?_
  have fx : F1 x = none := g1.fh.free hx
  have s1 : Same H1 (upd (upd H1 dx (.own x)) x (.ins C dx [])) := fun b o z => by rw [upd_ne (ne_of_none z hx), upd_ne (ne_of_none z hdx)]; exact z
  refine ⟨i, F1, x, dx, vs, hp, by rw [List.append_nil], g1.fh.trans s1, fx, upd_same, p1, fun F2 H2 g2 p2 => ⟨rfl, q _ F2 H2 (g1.trans ⟨g2.ff, fun b o z => ?_, g2.fh, fun b hb hf => ?_⟩) p2⟩⟩
  · exact g2.hh b o (by rw [hid_ne (ne_of_none z hx)]; exact s1 b o z)
  · refine g2.nw b ?_ hf
    cases z : H1 b with
    | none => exact absurd z hb
    | some o =>
      rw [hid_ne (ne_of_none z hx), s1 b o z]
      exact fun q => by cases q
end

/-! ### statements -/
def setsT (Ps : Tys) : List Nat → List Ty → Tys
  | i :: is, P :: Rs => setsT (Ps.set i (some P)) is Rs
  | _, _ => Ps
def setsV (σ : L2.St) : List Nat → List V → L2.St
  | i :: is, v :: vs => setsV (σ.set i (some v)) is vs
  | _, _ => σ
def gNs : List Nat → TGs
  | [] => gNil
  | i :: is => gCons (gName i) (gNs is)
theorem Slots.sets {F : Hp} : ∀ {is : List Nat} {Rs : List Ty} {vs : List V} {σ : L2.St} {Ps : Tys}, Slots F σ Ps → AllP F Rs vs → Slots F (setsV σ is vs) (setsT Ps is Rs)
  | [], _, _, _, _, h, _ => h
  | _ :: _, _, _, _, _, h, .nil => h
  | i :: is, _, _, _, _, h, .cons h1 h2 => Slots.sets (is := is) (h.set i h1) h2
theorem gNs_ok : ∀ {is : List Nat} {vs : List V} {σ : L2.St} {H : Hp} {Q : L2.St → Hp → Prop}, is.length = vs.length → Q (setsV σ is vs) H → gNs is vs σ H Q
  | [], [], _, _, _, _, q => ⟨rfl, q⟩
  | i :: is, v :: vs, σ, H, Q, e, q => ⟨v, vs, rfl, gNs_ok (is := is) (by simpa using e) q⟩
  | [], _ :: _, _, _, _, e, _ => by simp at e
  | _ :: _, [], _, _, _, e, _ => by simp at e
section
variable {K : PySem.W.Frag} {Ps : Tys} {P P' R : Ty} {te ta tb : TE} {tl : TA} {tc : TT} {b : Bool} {F0 H0 F H : Hp} {σ : L2.St} {D : Ends} {tu tw : TS} {Qs Rs : List Ty}
theorem RS.fh (R : RS F0 H0 F H σ Ps) : Same F H := R.gr.fh
theorem s_asg {i : Nat} (R : RS F0 H0 F H σ Ps) (h : EvX te Ps P) (k : ∀ F' H' σ', RS F0 H0 F' H' σ' (Ps.set i (some P)) → D.nx σ' H') : tAsg te (gName i) D σ H :=
  h F H σ R.fh R.sl _ fun v F1 H1 g1 p1 => k F1 H1 _ ((R.step g1).set i p1)
theorem s_ret (R : RS F0 H0 F H σ Ps) (h : EvX te Ps P) (k : ∀ v F' H', Gr F0 H0 F' H' → P.p F' v → D.rt v H') : tRet te D σ H :=
  h F H σ R.fh R.sl _ fun v F1 H1 g1 p1 => k v F1 H1 (R.gr.trans g1) p1
theorem s_drop (R : RS F0 H0 F H σ Ps) (h : EvX te Ps P) (k : ∀ F' H', RS F0 H0 F' H' σ Ps → D.nx σ H') : tDrop te D σ H :=
  h F H σ R.fh R.sl _ fun v F1 H1 g1 p1 => k F1 H1 (R.step g1)
theorem s_if (R : RS F0 H0 F H σ Ps) (h : EvT tc Ps b) (h1 : b = true → ∀ F' H', RS F0 H0 F' H' σ Ps → tu D σ H') (h2 : b = false → ∀ F' H', RS F0 H0 F' H' σ Ps → tw D σ H') : tIfS tc tu tw D σ H :=
  h F H σ R.fh R.sl _ fun F1 H1 g1 => by
    cases b with
    | true => exact h1 rfl F1 H1 (R.step g1)
    | false => exact h2 rfl F1 H1 (R.step g1)
theorem s_ifT (R : RS F0 H0 F H σ Ps) (h : EvT tc Ps b) (e : b = true) (h1 : ∀ F' H', RS F0 H0 F' H' σ Ps → tu D σ H') : tIfS tc tu tw D σ H := s_if R h (fun _ => h1) fun z => by rw [e] at z; cases z
theorem s_ifF (R : RS F0 H0 F H σ Ps) (h : EvT tc Ps b) (e : b = false) (h2 : ∀ F' H', RS F0 H0 F' H' σ Ps → tw D σ H') : tIfS tc tu tw D σ H := s_if R h (fun z => by rw [e] at z; cases z) fun _ => h2
/-- a, b, .. = a tuple -/
theorem s_unp {is : List Nat} {n : Nat} (R : RS F0 H0 F H σ Ps) (h : EvX te Ps (TupP Qs)) (hn : Qs.length = n) (hl : is.length = n) (k : ∀ F' H' σ', RS F0 H0 F' H' σ' (setsT Ps is Qs) → D.nx σ' H') : tAsg te (gTup K n (gNs is)) D σ H :=
  h F H σ R.fh R.sl _ fun v F1 H1 g1 ⟨a, xs, h1, h2, h3⟩ =>
    ⟨a, xs, h1, SqT.of (g1.fh _ _ h2), by rw [← h3.len, hn], gNs_ok (by rw [← h3.len, hn, hl]) (k F1 H1 _ ⟨R.gr.trans g1, (R.step g1).sl.sets h3⟩)⟩
theorem s_unpD {is : List Nat} {n : Nat} {ts : List T} (R : RS F0 H0 F H σ Ps) (h : EvX te Ps (Dat (.tup ts))) (hn : ts.length = n) (hl : is.length = n) (k : ∀ F' H' σ', RS F0 H0 F' H' σ' (setsT Ps is (ts.map Dat)) → D.nx σ' H') : tAsg te (gTup K n (gNs is)) D σ H :=
  s_unp R (ev_untup h) (by rw [List.length_map]; exact hn) hl k
theorem s_par {i j : Nat} (R : RS F0 H0 F H σ Ps) (h : EvA tl Ps [P, P']) (k : ∀ F' H' σ', RS F0 H0 F' H' σ' ((Ps.set i (some P)).set j (some P')) → D.nx σ' H') : tPar i j tl D σ H :=
  h F H σ R.fh R.sl _ fun vs F1 H1 g1 p1 => by
    cases p1 with
    | cons p1 p2 =>
      cases p2 with
      | cons p2 p3 =>
        cases p3
        exact ⟨_, _, rfl, k F1 H1 _ (((R.step g1).set i p1).set j p2)⟩
/-- x.f = e, x a local that holds an instance that is not finished -/
theorem s_fld {x C : Addr} {tfs : Flds} {f : Str} {fs : List Str} (R : RS F0 H0 F H σ Ps) (o : Op x C F H tfs) (h0 : H0 x = none) (hx : EvX ta Ps (Vl (.ref x))) (hv : EvX tb Ps P) (c : OwnC K C fs) (hf : f ∈ fs) (hn : tfs.length < 1000)
    (k : ∀ F' H', RS F0 H0 F' H' σ Ps → Op x C F' H' (putT f P tfs) → D.nx σ H') : sFld K ta tb f D σ H :=
  hv F H σ R.fh R.sl _ fun v F1 H1 g1 p1 => hx F1 H1 σ g1.fh (R.sl.up g1.ff) _ fun u F2 H2 g2 p2 => by
    have g := g1.trans g2
    obtain ⟨q1, dx, vs, q2, q3⟩ := o.step g
    refine ⟨x, C, dx, vs, p2, q2, c.cl, c.na f hf, by rw [← q3.len]; exact hn, ?_⟩
    have R2 := R.step g
    exact k F2 _ ⟨R2.gr.put h0 q1, R2.sl⟩ ⟨q1, dx, _, upd_same, q3.put (P.up _ _ _ g2.ff p1)⟩
/-- x.f, x not finished -/
theorem x_fldO {x C : Addr} {tfs : Flds} {f : Str} {fs : List Str} (R : RS F0 H0 F H σ Ps) (o : Op x C F H tfs) : True := trivial
/-! loops -/
structure WalkI (J : It) (F : Hp) (its : List Ty) : Prop where
  goes : ∀ i F' H, i < its.length → Same F F' → Same F' H → J.go i H
  stops : ∀ F' H, Same F F' → Same F' H → J.stop its.length H
  yields : ∀ i P F' H x H', its[i]? = some P → Same F F' → Same F' H → J.yld i H x H' → ∃ F2, Gr F' H F2 H' ∧ P.p F2 x
def EvI (wi : TI) (Ps : Tys) (its : List Ty) : Prop := ∀ F H σ, Same F H → Slots F σ Ps → ∀ Z : It → Hp → Prop, (∀ J F' H', Gr F H F' H' → WalkI J F' its → Z J H') → wi σ H Z
/-- the targets of a for: one name; several -/
inductive Tgt (K : PySem.W.Frag) : TG → List Nat → Ty → List Ty → Prop
  | one (i : Nat) (P : Ty) : Tgt K (gName i) [i] P [P]
  | tup (n : Nat) (is : List Nat) (Qs : List Ty) (h : is.length = Qs.length) (hn : Qs.length = n) : Tgt K (gTup K n (gNs is)) is (TupP Qs) Qs
theorem Tgt.run {g : TG} {is : List Nat} {v : V} {Q : L2.St → Hp → Prop} (t : Tgt K g is P Rs) (e : Same F H) (hv : P.p F v) (k : ∀ vs, AllP F Rs vs → Q (setsV σ is vs) H) : g v σ H Q := by
  cases t with
  | one i P => exact k [v] (.cons hv .nil)
  | tup n is Qs h hn =>
    obtain ⟨a, xs, h1, h2, h3⟩ := hv
    exact ⟨a, xs, h1, SqT.of (e _ _ h2), by rw [← h3.len, hn], gNs_ok (by rw [h, h3.len]) (k xs h3)⟩
theorem Gr.rebase {F0 H0 F1 H1 F2 H2 : Hp} (a : Gr F0 H0 F1 H1) (b : Gr F1 H0 F2 H2) : Gr F0 H0 F2 H2 := ⟨a.ff.trans b.ff, b.hh, b.fh, fun x hx hf => b.nw x hx (a.nw x hx hf)⟩
theorem Gr.base {F0 H0 F1 H1 : Hp} (a : Gr F0 H0 F1 H1) : Gr F1 H0 F1 H1 := ⟨.refl _, a.hh, a.fh, fun _ _ h => h⟩
/-- for x in ..: Pt and In by the turn -/
theorem s_forIp {wi : TI} {g : TG} {is : List Nat} {α : Type} {xs : List α} {ι : α → Ty} {ts : α → List Ty} (R : RS F0 H0 F H σ Ps) (hi : ∀ Z : It → Hp → Prop, (∀ J F' H', Gr F H F' H' → WalkI J F' (xs.map ι) → Z J H') → wi σ H Z) (Pt : Nat → Tys) (In : Nat → Hp → Hp → Prop) (e0 : Pt 0 = Ps) (i0 : In 0 F H) (ht : ∀ a ∈ xs, Tgt K g is (ι a) (ts a))
    (up : ∀ i F H F' H', In i F H → Gr F H F' H' → In i F' H')
    (hs : ∀ F1, (∀ F' H', Gr F1 H0 F' H' → Gr F0 H0 F' H') → ∀ i a, xs[i]? = some a → ∀ F' H' σ', RS F1 H0 F' H' σ' (setsT (Pt i) is (ts a)) → In i F' H' →
      tu { D with nx := fun σ H => ∃ F, RS F1 H0 F H σ (Pt (i + 1)) ∧ In (i + 1) F H, ct := fun σ H => ∃ F, RS F1 H0 F H σ (Pt (i + 1)) ∧ In (i + 1) F H, bk := D.nx } σ' H')
    (hd : ∀ F' H' σ', RS F0 H0 F' H' σ' (Pt xs.length) → In xs.length F' H' → D.nx σ' H') : tFor wi g tu D σ H :=
  hi _ fun J F1 H1 g1 w => by
    have R1 := R.step g1
    refine ⟨fun i m σ' H' => m = xs.length - i ∧ i ≤ xs.length ∧ ∃ F', RS F1 H0 F' H' σ' (Pt i) ∧ In i F' H', ⟨_, rfl, Nat.zero_le _, F1, by rw [e0]; exact ⟨R1.gr.base, R1.sl⟩, up _ _ _ _ _ i0 g1⟩, ?_⟩
    rintro i m σ' H' ⟨rfl, hle, F', R', I'⟩
    by_cases hlt : i < xs.length
    · refine .inr ⟨w.goes i F' H' (by rw [List.length_map]; exact hlt) R'.gr.ff R'.fh, fun σ2 H2 => ∃ F2, RS F1 H0 F2 H2 σ2 (Pt (i + 1)) ∧ In (i + 1) F2 H2, fun σ2 H2 p => ⟨xs.length - (i + 1), by omega, rfl, hlt, p⟩, fun x H2 y => ?_⟩
      have ha : xs[i]? = some xs[i] := List.getElem?_eq_getElem hlt
      obtain ⟨F2, g2, p2⟩ := w.yields i (ι xs[i]) F' H' x H2 (by rw [List.getElem?_map, ha]; rfl) R'.gr.ff R'.fh y
      refine (ht xs[i] (List.getElem_mem hlt)).run (σ := σ') g2.fh p2 fun vs hvs => ?_
      have R2 := R'.step g2
      exact hs F1 (fun F' H' z => R1.gr.rebase z) i xs[i] ha F2 H2 _ ⟨R2.gr, R2.sl.sets hvs⟩ (up _ _ _ _ _ I' g2)
    · have : i = xs.length := by omega
      subst this
      exact .inl ⟨by have := w.stops F' H' R'.gr.ff R'.fh; rw [List.length_map] at this; exact this, hd F' H' σ' ⟨R1.gr.rebase R'.gr, R'.sl⟩ I'⟩
theorem s_forI {wi : TI} {g : TG} {is : List Nat} {α : Type} {xs : List α} {ι : α → Ty} {ts : α → List Ty} (R : RS F0 H0 F H σ Ps) (hi : EvI wi Ps (xs.map ι)) (Pt : Nat → Tys) (In : Nat → Hp → Hp → Prop) (e0 : Pt 0 = Ps) (i0 : In 0 F H) (ht : ∀ a ∈ xs, Tgt K g is (ι a) (ts a))
    (up : ∀ i F H F' H', In i F H → Gr F H F' H' → In i F' H')
    (hs : ∀ F1, (∀ F' H', Gr F1 H0 F' H' → Gr F0 H0 F' H') → ∀ i a, xs[i]? = some a → ∀ F' H' σ', RS F1 H0 F' H' σ' (setsT (Pt i) is (ts a)) → In i F' H' →
      tu { D with nx := fun σ H => ∃ F, RS F1 H0 F H σ (Pt (i + 1)) ∧ In (i + 1) F H, ct := fun σ H => ∃ F, RS F1 H0 F H σ (Pt (i + 1)) ∧ In (i + 1) F H, bk := D.nx } σ' H')
    (hd : ∀ F' H' σ', RS F0 H0 F' H' σ' (Pt xs.length) → In xs.length F' H' → D.nx σ' H') : tFor wi g tu D σ H :=
  s_forIp R (hi F H σ R.fh R.sl) Pt In e0 i0 ht up hs hd
theorem s_for {wi : TI} {g : TG} {is : List Nat} {α : Type} {xs : List α} {ι : α → Ty} {ts : α → List Ty} (R : RS F0 H0 F H σ Ps) (hi : EvI wi Ps (xs.map ι)) (Pt : Nat → Tys) (e0 : Pt 0 = Ps) (ht : ∀ a ∈ xs, Tgt K g is (ι a) (ts a))
    (hs : ∀ F1, (∀ F' H', Gr F1 H0 F' H' → Gr F0 H0 F' H') → ∀ i a, xs[i]? = some a → ∀ F' H' σ', RS F1 H0 F' H' σ' (setsT (Pt i) is (ts a)) →
      tu { D with nx := fun σ H => ∃ F, RS F1 H0 F H σ (Pt (i + 1)) ∧ True, ct := fun σ H => ∃ F, RS F1 H0 F H σ (Pt (i + 1)) ∧ True, bk := D.nx } σ' H')
    (hd : ∀ F' H' σ', RS F0 H0 F' H' σ' (Pt xs.length) → D.nx σ' H') : tFor wi g tu D σ H :=
  s_forI R hi Pt (fun _ _ _ => True) e0 trivial ht (fun _ _ _ _ _ _ _ => trivial) (fun F1 b i a ha F' H' σ' R' _ => hs F1 b i a ha F' H' σ' R') fun F' H' σ' R' _ => hd F' H' σ' R'
end

/-! ### what is walked -/
section
variable {K : PySem.W.Frag} {Ps : Tys} {P P' R : Ty} {te ta tb : TE} {tl : TA} {Qs Rs : List Ty} {i : Int} {n : Nat}
theorem i_tup (h : EvX te Ps (TupP Qs)) : EvI (iTup K te) Ps Qs := fun F H σ e s Z q =>
  h F H σ e s _ fun v F1 H1 g1 ⟨a, xs, h1, h2, h3⟩ => by
    have hs : ∀ F' H', Same F1 F' → Same F' H' → SqT K H' a xs := fun F' H' e1 e2 => SqT.of (e2 _ _ (e1 _ _ h2))
    refine ⟨a, h1, ⟨xs, SqT.of (g1.fh _ _ h2)⟩, q _ F1 H1 g1 ⟨fun i F' H' hi e1 e2 => ?_, fun F' H' e1 e2 => ?_, fun i P F' H' x H'' hP e1 e2 y => ?_⟩⟩
    · exact (walk_tup (K := K) (a := a) (xs := xs)).goes i H' (by rw [← h3.len]; exact hi) (hs F' H' e1 e2)
    · have := (walk_tup (K := K) (a := a) (xs := xs)).stops H' (hs F' H' e1 e2)
      rw [← h3.len] at this
      exact this
    · obtain ⟨w1, w2⟩ := (walk_tup (K := K) (a := a) (xs := xs)).yields i H' x H'' (by rw [← h3.len]; exact getElem?_lt hP) (hs F' H' e1 e2) y
      subst w1
      obtain ⟨u, k1, k2⟩ := h3.get hP
      rw [w2] at k1
      cases k1
      exact ⟨F', .refl e2, P.up _ _ _ e1 k2⟩
theorem i_lst (h : EvX te Ps (LstP Qs)) : EvI (iList K te) Ps Qs := fun F H σ e s Z q =>
  h F H σ e s _ fun v F1 H1 g1 ⟨a, xs, h1, h2, h3⟩ => by
    have hs : ∀ F' H', Same F1 F' → Same F' H' → SqL K H' a xs := fun F' H' e1 e2 => SqL.of (e2 _ _ (e1 _ _ h2))
    refine ⟨a, h1, ⟨xs, SqL.of (g1.fh _ _ h2)⟩, q _ F1 H1 g1 ⟨fun i F' H' hi e1 e2 => ?_, fun F' H' e1 e2 => ?_, fun i P F' H' x H'' hP e1 e2 y => ?_⟩⟩
    · exact (walk_list (K := K) (a := a) (xs := xs)).goes i H' (by rw [← h3.len]; exact hi) (hs F' H' e1 e2)
    · have := (walk_list (K := K) (a := a) (xs := xs)).stops H' (hs F' H' e1 e2)
      rw [← h3.len] at this
      exact this
    · obtain ⟨w1, w2⟩ := (walk_list (K := K) (a := a) (xs := xs)).yields i H' x H'' (by rw [← h3.len]; exact getElem?_lt hP) (hs F' H' e1 e2) y
      subst w1
      obtain ⟨u, k1, k2⟩ := h3.get hP
      rw [w2] at k1
      cases k1
      exact ⟨F', .refl e2, P.up _ _ _ e1 k2⟩
theorem i_range (h : EvA tl Ps [Dat (.int (n : Int))]) (hn : n < 2 ^ 62) : EvI (iRng1 tl) Ps ((List.range n).map fun (k : Nat) => Dat (.int (k : Int))) := fun F H σ e s Z q =>
  h F H σ e s _ fun vs F1 H1 g1 p1 => by
    cases p1 with
    | cons p1 p2 =>
      cases p2
      refine ⟨n, by rw [dat_int p1], by omega, by omega, ?_⟩
      rw [Int.toNat_natCast]
      refine q _ F1 H1 g1 ⟨fun i F' H' hi e1 e2 => ?_, fun F' H' e1 e2 => ?_, fun i P F' H' x H'' hP e1 e2 y => ?_⟩
      · exact (walk_range (lo := 0) (n := n)).goes i H' (by simpa using hi) trivial
      · have := (walk_range (lo := 0) (n := n)).stops H' trivial
        simpa using this
      · have hi : i < n := by have := getElem?_lt hP; simpa using this
        obtain ⟨w1, w2⟩ := (walk_range (lo := 0) (n := n)).yields i H' x H'' hi trivial y
        subst w1 w2
        have : P = Dat (.int (i : Int)) := by
          rw [List.getElem?_map, List.getElem?_range hi] at hP
          exact (Option.some.inj hP).symm
        subst this
        refine ⟨F', .refl e2, ?_⟩
        show RT F' (V.int (0 + (i : Int))) _
        rw [Int.zero_add]
        exact .int _
/-- two paired sources -/
theorem pair_walk {J : It} {G : Hp → Prop} {m : Nat} {xs ys : Nat → Option V} {F1 : Hp} {Q1 Q2 : List Ty} {us ws : List V} (w : Walk J m G (YPair xs ys)) (h1 : AllP F1 Q1 us) (h2 : AllP F1 Q2 ws) (hm : m = min Q1.length Q2.length)
    (e1 : ∀ i, i < m → xs i = us[i]?) (e2 : ∀ i, i < m → ys i = ws[i]?) (hG : ∀ F' H', Same F1 F' → Same F' H' → G H') : WalkI J F1 ((List.zip Q1 Q2).map fun p => TupP [p.1, p.2]) := by
  have hl : ((List.zip Q1 Q2).map fun p => TupP [p.1, p.2]).length = m := by rw [List.length_map, List.length_zip, hm]
  refine ⟨fun i F' H hi ea eb => w.goes i H (by rw [← hl]; exact hi) (hG F' H ea eb), fun F' H ea eb => by rw [hl]; exact w.stops H (hG F' H ea eb), fun i P F' H x H' hP ea eb y => ?_⟩
  have hi : i < m := by rw [← hl]; exact getElem?_lt hP
  obtain ⟨T, u, v, rfl, hT, rfl, k1, k2⟩ := w.yields i H x H' hi (hG F' H ea eb) y
  rw [List.getElem?_map] at hP
  obtain ⟨p, hp, rfl⟩ := Option.map_eq_some_iff.mp hP
  obtain ⟨hp1, hp2⟩ := List.getElem?_zip_eq_some.mp hp
  obtain ⟨u', a1, a2⟩ := h1.get hp1
  obtain ⟨v', b1, b2⟩ := h2.get hp2
  rw [e1 i hi, a1] at k1
  rw [e2 i hi, b1] at k2
  cases k1
  cases k2
  have hF : F' T = none := eb.free hT
  exact ⟨_, .new eb hT, T, _, rfl, upd_same, .cons (Ty.up _ _ _ _ (ea.trans (Same.upd_new hF)) a2) (.cons (Ty.up _ _ _ _ (ea.trans (Same.upd_new hF)) b2) .nil)⟩
theorem walk_zipT {K : PySem.W.Frag} {a b : Addr} {xs ys : List V} {n : Nat} (hn : n = min xs.length ys.length) : Walk (RZ.ItzT K a b) n (fun H => SqT K H a xs ∧ SqT K H b ys) (YPair (fun i => xs[i]?) (fun i => ys[i]?)) := by
  subst hn
  refine ⟨fun i H hi q => ?_, fun H q => ⟨xs, ys, q.1, q.2, by omega⟩, fun i H v H' hi q y => ?_⟩
  · exact ⟨xs, ys, xs[i]'(by omega), ys[i]'(by omega), q.1, q.2, List.getElem?_eq_getElem _, List.getElem?_eq_getElem _⟩
  · obtain ⟨T, x, z, h1, h2, h3, h4, h5⟩ := y
    exact ⟨T, x, z, h1, h2, h3, h4 xs q.1, h5 ys q.2⟩
theorem i_zipT (h1 : EvX ta Ps (TupP Qs)) (h2 : EvX tb Ps (TupP Rs)) : EvI (RZ.iZipA K (tCons ta (tCons tb tNil))) Ps ((List.zip Qs Rs).map fun p => TupP [p.1, p.2]) := fun F H σ e s Z q =>
  (a_cons h1 (a_cons h2 a_nil)) F H σ e s _ fun vs F1 H1 g1 p1 => by
    cases p1 with
    | cons p1 p2 =>
      cases p2 with
      | cons p2 p3 =>
        cases p3
        obtain ⟨a, xs, rfl, a1, a2⟩ := p1
        obtain ⟨b, ys, rfl, b1, b2⟩ := p2
        exact ⟨a, b, xs, ys, rfl, .inr ⟨SqT.of (g1.fh _ _ a1), SqT.of (g1.fh _ _ b1), q _ F1 H1 g1
          (pair_walk (walk_zipT (K := K) rfl) a2 b2 (by rw [a2.len, b2.len]) (fun _ _ => rfl) (fun _ _ => rfl) fun F' H' ea eb => ⟨SqT.of (eb _ _ (ea _ _ a1)), SqT.of (eb _ _ (ea _ _ b1))⟩)⟩⟩
theorem i_zipL (h1 : EvX ta Ps (LstP Qs)) (h2 : EvX tb Ps (LstP Rs)) : EvI (RZ.iZipA K (tCons ta (tCons tb tNil))) Ps ((List.zip Qs Rs).map fun p => TupP [p.1, p.2]) := fun F H σ e s Z q =>
  (a_cons h1 (a_cons h2 a_nil)) F H σ e s _ fun vs F1 H1 g1 p1 => by
    cases p1 with
    | cons p1 p2 =>
      cases p2 with
      | cons p2 p3 =>
        cases p3
        obtain ⟨a, xs, rfl, a1, a2⟩ := p1
        obtain ⟨b, ys, rfl, b1, b2⟩ := p2
        exact ⟨a, b, xs, ys, rfl, .inl ⟨SqL.of (g1.fh _ _ a1), SqL.of (g1.fh _ _ b1), q _ F1 H1 g1
          (pair_walk (walk_zip (K := K) rfl) a2 b2 (by rw [a2.len, b2.len]) (fun _ _ => rfl) (fun _ _ => rfl) fun F' H' ea eb => ⟨SqL.of (eb _ _ (ea _ _ a1)), SqL.of (eb _ _ (ea _ _ b1))⟩)⟩⟩
theorem i_enumL (h : EvX te Ps (LstP Qs)) : EvI (iEnum K (tCons te tNil)) Ps ((List.zip ((List.range Qs.length).map fun (k : Nat) => Dat (.int (k : Int))) Qs).map fun p => TupP [p.1, p.2]) := fun F H σ e s Z q =>
  (a_cons h a_nil) F H σ e s _ fun vs F1 H1 g1 p1 => by
    cases p1 with
    | cons p1 p2 =>
      cases p2
      obtain ⟨a, xs, rfl, a1, a2⟩ := p1
      refine ⟨a, xs, rfl, SqL.of (g1.fh _ _ a1), q _ F1 H1 g1 (pair_walk (us := (List.range xs.length).map fun (k : Nat) => V.int k) (walk_enum (K := K)) (by rw [a2.len]; exact AllP.map (f := fun (k : Nat) => Dat (.int (k : Int))) (g := fun (k : Nat) => V.int k) (fun k => RT.int _) _) a2 (by simp [a2.len]) (fun i hi => ?_) (fun _ _ => rfl) fun F' H' ea eb => SqL.of (eb _ _ (ea _ _ a1)))⟩
      rw [List.getElem?_map, List.getElem?_range hi]
      rfl
end

/-! ### list comprehensions -/
section
variable {K : PySem.W.Frag} {Ps : Tys} {P P' R : Ty} {te : TE} {tt : TT} {wi : TI} {g : TG} {vs is : List Nat} {α : Type} {xs : List α} {ι : α → Ty} {ts : α → List Ty} {b : α → Bool} {E : α → Ty}
theorem wipe_set_in {σ : L2.St} {i : Nat} {x : Option V} : ∀ {vs : List Nat}, i ∈ vs → L2.wipe (σ.set i x) vs = L2.wipe σ vs
  | v :: vs, h => by
    show (L2.wipe (σ.set i x) vs).set v none = (L2.wipe σ vs).set v none
    by_cases hm : i ∈ vs
    · rw [wipe_set_in hm]
    · have e : i = v := by
        rcases List.mem_cons.mp h with z | z
        · exact z
        · exact absurd z hm
      subst e
      have c : ∀ (vs : List Nat) (σ : L2.St), i ∉ vs → L2.wipe (σ.set i x) vs = (L2.wipe σ vs).set i x := by
        intro vs
        induction vs with
        | nil => intro σ _; rfl
        | cons w ws ih =>
          intro σ hw
          have h1 : i ≠ w := fun z => hw (by rw [z]; exact List.mem_cons_self)
          show (L2.wipe (σ.set i x) ws).set w none = ((L2.wipe σ ws).set w none).set i x
          rw [ih σ fun z => hw (List.mem_cons_of_mem _ z), List.set_comm _ _ h1]
      rw [c vs σ hm, List.set_set]
theorem wipe_sets : ∀ {is : List Nat} {us : List V} {σ : L2.St}, (∀ i ∈ is, i ∈ vs) → L2.wipe (setsV σ is us) vs = L2.wipe σ vs
  | [], [], _, _ => rfl
  | [], _ :: _, _, _ => rfl
  | _ :: _, [], _, _ => rfl
  | i :: is, u :: us, σ, h => by
    show L2.wipe (setsV (σ.set i (some u)) is us) vs = L2.wipe σ vs
    rw [wipe_sets fun j hj => h j (List.mem_cons_of_mem _ hj), wipe_set_in (h i List.mem_cons_self)]
theorem wipe_wipe_set {v : Nat} : ∀ (ws : List Nat) (τ : L2.St), L2.wipe (τ.set v none) ws = (L2.wipe τ ws).set v none
  | [], _ => rfl
  | w :: ws, τ => by
    show (L2.wipe (τ.set v none) ws).set w none = ((L2.wipe τ ws).set w none).set v none
    rw [wipe_wipe_set ws]
    by_cases e : v = w
    · subst e; rfl
    · rw [List.set_comm _ _ e]
theorem wipe_wipe {σ : L2.St} : ∀ {vs : List Nat}, L2.wipe (L2.wipe σ vs) vs = L2.wipe σ vs
  | [] => rfl
  | v :: vs => by
    show (L2.wipe ((L2.wipe σ vs).set v none) vs).set v none = (L2.wipe σ vs).set v none
    rw [wipe_wipe_set, wipe_wipe, List.set_set]
/-- a list that grows: known to the heap, not frozen -/
def OpL (l : Addr) (F H : Hp) (Qs : List Ty) : Prop := F l = none ∧ ∃ us, H l = some (.lst us) ∧ AllP F Qs us
theorem OpL.step {l : Addr} {F H F' H' : Hp} {Qs : List Ty} (o : OpL l F H Qs) (g : Gr F H F' H') : OpL l F' H' Qs := by
  obtain ⟨h1, us, h2, h3⟩ := o
  exact ⟨g.nw l (by rw [h2]; exact fun q => by cases q) h1, us, g.hh _ _ h2, h3.up g.ff⟩
theorem OpL.done {l : Addr} {F0 H0 F H : Hp} {Qs : List Ty} (o : OpL l F H Qs) (g : Gr F0 H0 F H) (h0 : H0 l = none) : ∃ F', Gr F0 H0 F' H ∧ Same F F' ∧ (LstP Qs).p F' (.ref l) := by
  obtain ⟨h1, us, h2, h3⟩ := o
  exact ⟨upd F l (.lst us), g.freeze h0 h1 h2, Same.upd_new h1, l, us, rfl, upd_same, h3.up (Same.upd_new h1)⟩
theorem filter_take {α : Type} (b : α → Bool) {xs : List α} {i : Nat} {a : α} (h : xs[i]? = some a) : (xs.take (i + 1)).filter b = (xs.take i).filter b ++ if b a = true then [a] else [] := by
  rw [List.take_add_one, h, List.filter_append]
  show _ ++ List.filter b [a] = _
  rw [List.filter_cons]
  rfl
theorem x_lc (hi : EvI wi Ps (xs.map ι)) (hg : ∀ a ∈ xs, Tgt K g is (ι a) (ts a)) (hsub : ∀ i ∈ is, i ∈ vs) (hz : xs.length < sizeLine) (ht : ∀ a ∈ xs, EvT tt (setsT (wipeT Ps vs) is (ts a)) (b a))
    (he : ∀ a ∈ xs, b a = true → EvX te (setsT (wipeT Ps vs) is (ts a)) (E a)) : EvX (tLc wi g tt te vs) Ps (LstP ((xs.filter b).map E)) := fun F H σ e s Q q =>
  hi F H σ e s _ fun J F1 H1 g1 w D hD => by
    have fD : F1 D = none := g1.fh.free hD
    have q0 : ∀ {F' H' : Hp}, Gr F1 H1 F' H' → OpL D F' H' ((xs.filter b).map E) → Q (.ref D) H' := fun {F' H'} g' o => by
      obtain ⟨F2, k1, k2, k3⟩ := o.done g' hD
      exact q _ F2 H' (g1.trans k1) k3
    refine ⟨fun i m H' => m = xs.length - i ∧ i ≤ xs.length ∧ ∃ F', Gr F1 H1 F' H' ∧ OpL D F' H' (((xs.take i).filter b).map E), ⟨_, rfl, Nat.zero_le _, F1, .open g1.fh hD, fD, [], upd_same, by simp; exact .nil⟩, ?_⟩
    rintro i m H' ⟨rfl, hle, F', g', o'⟩
    by_cases hlt : i < xs.length
    · refine .inr ⟨w.goes i F' H' (by rw [List.length_map]; exact hlt) g'.ff g'.fh, fun H2 => ∃ F2, Gr F1 H1 F2 H2 ∧ OpL D F2 H2 (((xs.take (i + 1)).filter b).map E), fun H2 p => ⟨xs.length - (i + 1), by omega, rfl, hlt, p⟩, fun x H2 y => ?_⟩
      have ha : xs[i]? = some xs[i] := List.getElem?_eq_getElem hlt
      have hm : xs[i] ∈ xs := List.getElem_mem hlt
      obtain ⟨F2, g2, p2⟩ := w.yields i (ι xs[i]) F' H' x H2 (by rw [List.getElem?_map, ha]; rfl) g'.ff g'.fh y
      refine (hg xs[i] hm).run (σ := L2.wipe σ vs) g2.fh p2 fun us hus => ⟨by rw [wipe_sets hsub, wipe_wipe], ?_⟩
      have s2 : Slots F2 (setsV (L2.wipe σ vs) is us) (setsT (wipeT Ps vs) is (ts xs[i])) := ((s.up (g1.ff.trans (g'.ff.trans g2.ff))).wipes vs).sets hus
      refine ht xs[i] hm F2 H2 _ g2.fh s2 _ fun F3 H3 g3 => ?_
      cases hb : b xs[i] with
      | true =>
        refine he xs[i] hm hb F3 H3 _ g3.fh (s2.up g3.ff) _ fun v F4 H4 g4 p4 => ?_
        obtain ⟨k1, acc, k2, k3⟩ := ((o'.step g2).step g3).step g4
        have gg := ((g'.trans g2).trans g3).trans g4
        refine ⟨acc, k2, ?_, F4, gg.put hD k1, k1, _, upd_same, ?_⟩
        · rw [← k3.len, List.length_map]
          have := List.length_filter_le b (xs.take i)
          rw [List.length_take] at this
          omega
        · rw [filter_take b ha, hb, List.map_append]
          exact k3.append (.cons p4 .nil)
      | false =>
        refine ⟨F3, (g'.trans g2).trans g3, ?_⟩
        rw [filter_take b ha, hb]
        have := (o'.step g2).step g3
        simpa using this
    · have : i = xs.length := by omega
      subst this
      rw [List.take_length] at o'
      exact .inl ⟨by have := w.stops F' H' g'.ff g'.fh; rw [List.length_map] at this; exact this, q0 g' o'⟩
/-- without a test -/
theorem x_lcM (hi : EvI wi Ps (xs.map ι)) (hg : ∀ a ∈ xs, Tgt K g is (ι a) (ts a)) (hsub : ∀ i ∈ is, i ∈ vs) (hz : xs.length < sizeLine)
    (he : ∀ a ∈ xs, EvX te (setsT (wipeT Ps vs) is (ts a)) (E a)) : EvX (tLc wi g tYes te vs) Ps (LstP (xs.map E)) := by
  have := x_lc (b := fun _ => true) (tt := tYes) hi hg hsub hz (fun a _ F H σ e s Q q => q F H (.refl e)) (fun a ha _ => he a ha)
  rw [List.filter_eq_self.mpr (fun _ _ => rfl)] at this
  exact this
end
end G
set_option Elab.async false
set_option linter.all false
set_option maxRecDepth 100000
set_option maxHeartbeats 4000000
namespace G
open PySem PySem.Spec PyProof.Rows L2

/-! ### the text's defs, methods, classes as they stand behind the top, with their promises -/
structure GF (P : Program) (w : World) (K : PySem.W.Frag) (mg : Str → Option Value) (base : Heap) (x : Str) (ps : List Str) (k : Nat) (sp : Sp) (f : Addr) (fd : FuncData) : Prop where
  ok : FnOk P w K mg base CX0 k f fd ps sp
  at_ : mg x = some (.ref f)
  kp : PySem.W.keepIn K (.ref f) = true
  b : Binds K fd ps []
structure GM (P : Program) (w : World) (K : PySem.W.Frag) (mg : Str → Option Value) (base : Heap) (C : Addr) (m : Str) (ps : List Str) (k : Nat) (sp : Sp) (f : Addr) (fd : FuncData) : Prop where
  ok : FnOk P w K mg base CX0 k f fd ps sp
  me : Meth K C m f
  cl : Cls K C
  b : Binds K fd ps []
structure GK (P : Program) (w : World) (K : PySem.W.Frag) (mg : Str → Option Value) (base : Heap) (x : Str) (C : Addr) (ps : List Str) (k : Nat) (sp : Sp) (f : Addr) (fd : FuncData) : Prop where
  ok : FnOk P w K mg base CX0 k f fd ps sp
  made : Mk K C f
  at_ : mg x = some (.ref C)
  b : Binds K fd ps []
section
variable {X : Cx} {k : Nat} {f C : Addr} {fd : FuncData} {ps : List Str} {sp : Sp} {x m : Str} {p pos apos : Pos} {e o : Expr} {es : List Expr} {ta : TE} {t : TA}
theorem pe_f (g : GF X.prog X.w X.K X.mg X.base x ps k sp f fd) (hr : Room k X.A) (hg : Gl X x) (ha : PA X (e :: es) t) (hdb : (x == ("__debug__" : Str)) = false := by decide) (he : starEach (e :: es) X.env = (false, eval e X.env) :: starEach es X.env := by rfl) (hpl : (backTo pos (starEach es X.env)).any (·.1) = false := by rfl) :
    PE X (.Call (.Name x p) (e :: es) [] pos) (tCall sp [] E0 t) := pe_call g.ok hr hg g.at_ g.kp g.b .nil pass0 ha hdb he hpl
theorem pe_k (g : GK X.prog X.w X.K X.mg X.base x C ps k sp f fd) (hr : Room (k + 1) X.A) (hg : Gl X x) (ha : PA X (e :: es) t) (hdb : (x == ("__debug__" : Str)) = false := by decide) (he : starEach (e :: es) X.env = (false, eval e X.env) :: starEach es X.env := by rfl) (hpl : (backTo pos (starEach es X.env)).any (·.1) = false := by rfl) :
    PE X (.Call (.Name x p) (e :: es) [] pos) (tMake C sp [] E0 t) := pe_make g.made g.ok hr hg g.at_ g.b .nil pass0 ha hdb he hpl
theorem pe_m {pl : Sem Bool} (g : GM X.prog X.w X.K X.mg X.base C m ps k sp f fd) (hr : Room k X.A) (he : PE X o ta) (ha : PA X (e :: es) t)
    (hst : starEach (e :: es) X.env = (false, eval e X.env) :: starEach es X.env := by rfl) (hpl : (backTo pos (starEach es X.env)).any (·.1) = false := by rfl)
    (ht : eval (.Call (.Attribute o m apos) (e :: es) [] pos) X.env = (do
      let ov ← eval o X.env
      standAt apos.atName
      let (f, first) ← holding [ov] (getMethod ov m pl)
      callWith pos f first (backTo pos (starEach (e :: es) X.env)) (backToKw pos (keywordEach [] X.env))) := by rfl) :
    PE X (.Call (.Attribute o m apos) (e :: es) [] pos) (tMeth C m sp [] E0 ta t) := pe_meth he g.cl g.me g.ok hr g.b .nil pass0 ha hst hpl ht
theorem pe_m0 {pl : Sem Bool} (g : GM X.prog X.w X.K X.mg X.base C m ps k sp f fd) (hr : Room k X.A) (he : PE X o ta)
    (ht : eval (.Call (.Attribute o m apos) [] [] pos) X.env = (do
      let ov ← eval o X.env
      standAt apos.atName
      let (f, first) ← holding [ov] (getMethod ov m pl)
      callWith pos f first (backTo pos (starEach [] X.env)) (backToKw pos (keywordEach [] X.env))) := by rfl) :
    PE X (.Call (.Attribute o m apos) [] [] pos) (tMeth C m sp [] E0 ta tNil) := pe_meth0 he g.cl g.me g.ok hr g.b .nil pass0 ht
/-- a module's number -/
def GInt (mg : Str → Option Value) (x : Str) (i : Int) : Prop := ∃ t, mg x = some (.int i t)
theorem pe_gint {i : Int} (h : GInt X.mg x i) (hg : Gl X x := by rfl) (hd : (x == ("__debug__" : Str)) = false := by decide) : PE X (.Name x pos) (tC (.int i)) :=
  let ⟨t, e⟩ := h
  pe_glob hg e ⟨t, rfl⟩ hd
end
/-- the built-in names are still the built-ins -/
structure Bi (mg : Str → Option Value) : Prop where
  len_ : mg "len" = none
  all_ : mg "all" = none
  abs_ : mg "abs" = none
  min_ : mg "min" = none
  int_ : mg "int" = none
  bool_ : mg "bool" = none
  str_ : mg "str" = none
  list_ : mg "list" = none
  tuple_ : mg "tuple" = none
  set_ : mg "set" = none
  isinstance_ : mg "isinstance" = none
  range_ : mg "range" = none
  zip_ : mg "zip" = none
  enumerate_ : mg "enumerate" = none
  sorted_ : mg "sorted" = none
theorem b_len : bootBuiltins "len" = some (.builtin "len") := by decide +kernel
theorem b_all : bootBuiltins "all" = some (.builtin "all") := by decide +kernel
theorem b_abs : bootBuiltins "abs" = some (.builtin "abs") := by decide +kernel
theorem b_min : bootBuiltins "min" = some (.builtin "min") := by decide +kernel
theorem b_isinstance : bootBuiltins "isinstance" = some (.builtin "isinstance") := by decide +kernel
theorem b_sorted : bootBuiltins "sorted" = some (.builtin "sorted") := by decide +kernel
theorem b_int : bootBuiltins "int" = some (.type "int") := by decide +kernel
theorem b_bool : bootBuiltins "bool" = some (.type "bool") := by decide +kernel
theorem b_str : bootBuiltins "str" = some (.type "str") := by decide +kernel
theorem b_list : bootBuiltins "list" = some (.type "list") := by decide +kernel
theorem b_tuple : bootBuiltins "tuple" = some (.type "tuple") := by decide +kernel
theorem b_set : bootBuiltins "set" = some (.type "set") := by decide +kernel

/-! ### the text -/
def top (i : Nat) : Stmt := PySem.Challenge.pw_growalong_k40_whole_outcomes_by_own_step.main.body.getD i (.Pass ⟨0, 0, 0, 0⟩)

/-- a comprehension within another -/
theorem blkOk_in {N : List Str} {s1 s0 s2 : Scope} {cl : List (Str × Addr)} {c : Addr} {env : Env} {own : List (Str × Nat)} (e : env.scope = s0) (h : blkC N (relS s1 s0) s2 own = true) : BlkOk N (compEnvC s1 cl c env).scope s2 own := by
  subst e
  exact blkOk_by h

/-! ### t * k, any k -/
section
variable {X : Cx}
theorem tuple_mul0 (l : Addr) (items : Array Value) (n : Nat) (dd : Option Addr) (sl : Array (Option Value)) (u : Tok) (hne : items.isEmpty = false) :
    Meets (Builtin.«tuple.__mul__» ⟨[.ref l, .int 0 u], []⟩) (fun _ R s => s.heap.get? l = some { cls := .type "tuple", dict := dd, data := .seq items n, slots := sl } ∧
      R (.ok (.ret (Value.ref s.heap.objs.size))) { s with heap := s.heap.push { cls := Value.type "tuple", data := Data.seq #[] }, toks := s.toks }) :=
  .of_wp fun prog w A R s h => by
    obtain ⟨hp, g, d, tk, os⟩ := s
    obtain ⟨hl, h⟩ := h
    have f1 := AutoSeq1.idx_int
    wp_walk using wpAny_loadPart' hl
    repeat (first
      | (refine wpAny_ite_false (decide_eq_false (by simp [hne])) ?_; wp_walk using wpAny_loadPart' hl)
      | (refine wpAny_ite_true (decide_eq_true (by simp [hne])) ?_; wp_walk using wpAny_loadPart' hl))
    exact ⟨_, rfl, h⟩
theorem tuple_mul1 (l : Addr) (items : Array Value) (n : Nat) (dd : Option Addr) (sl : Array (Option Value)) (u : Tok) (hne : items.isEmpty = false) :
    Meets (Builtin.«tuple.__mul__» ⟨[.ref l, .int 1 u], []⟩) (fun _ R s => s.heap.get? l = some { cls := .type "tuple", dict := dd, data := .seq items n, slots := sl } ∧ R (.ok (.ret (Value.ref l))) s) :=
  .of_wp fun prog w A R s h => by
    obtain ⟨hp, g, d, tk, os⟩ := s
    obtain ⟨hl, h⟩ := h
    have f1 := AutoSeq1.idx_int
    wp_walk using wpAny_loadPart' hl
    repeat (first
      | (refine wpAny_ite_false (decide_eq_false (by simp [hne])) ?_; wp_walk using wpAny_loadPart' hl)
      | (refine wpAny_ite_true (decide_eq_true (by simp [hne])) ?_; wp_walk using wpAny_loadPart' hl))
    exact ⟨_, rfl, h⟩
end
end G
set_option Elab.async false
set_option linter.all false
set_option maxRecDepth 100000
set_option maxHeartbeats 4000000
namespace G
open PySem PySem.Spec PyProof.Rows L2

section
variable {X : Cx}
/-- t * k -/
def rRepA (K : PySem.W.Frag) : R2 := fun x y H Q => ∃ l k xs, x = .ref l ∧ y = .int k ∧ SqT K H l xs ∧ xs ≠ [] ∧ 0 ≤ k ∧ k ≤ 1000 ∧ xs.length ≤ 1000 ∧ (k = 1 → Q (.ref l) H) ∧ (k ≠ 1 → ∀ p, H p = none → Q (.ref p) (upd H p (.tup (List.replicate k.toNat xs).flatten)))
theorem op_repA : OpR X (binaryOp .Mult) (rRepA X.K) := by
  intro pins s σ H x y v u Q I rx ry h
  obtain ⟨l, k, xs, rfl, rfl, hT, hne, h0, h1, hz, q1, q2⟩ := h
  by_cases hk : 2 ≤ k
  · exact op_repT pins s σ H _ _ v u Q I rx ry ⟨l, k, xs, rfl, rfl, hT, hne, hk, h1, hz, q2 (by omega)⟩
  · cases rx
    obtain ⟨t, rfl⟩ := ry
    obtain ⟨its, r, ⟨⟨cls, dd, data, sl⟩, ho, hc, n, hd⟩, hs⟩ := I.tuple hT
    simp only at hc hd
    subst hc hd
    have hi : its.toArray.isEmpty = false := by
      cases its with
      | nil => cases r; exact absurd rfl hne
      | cons a b => rfl
    have go : ∀ (Z : Value → Shared → Prop) (k : Int), wpAny (model X.prog X.w) X.A (call (.builtin "tuple.__mul__") [.ref l, .int k t]) Z X.xe s →
        wpAny (model X.prog X.w) X.A (binaryOp .Mult (.ref l) (.int k t)) Z X.xe s := fun Z k h =>
      wpAny_binaryOp_repeat_ref (T := "tuple") (U := "int") (by decide) ⟨_, ho, rfl⟩ (fun s' => typeIs_int s' k t) noFill_tuple_mul F.fills_int_mul F.slot_int_rmul repeat_tuple F.slot_int_index.lookup
        (call_meets F.slot_int_rmul (typeIs_int s k t) F.entry_int_rmul (F.args_int_rmul_2 _ _) (int_rmul_tuple k t l its.toArray n dd sl) ⟨ho, rfl, ⟨_, ho, rfl⟩, h⟩)
    by_cases hk1 : k = 1
    · subst hk1
      exact go _ 1 (call_meets F.slot_tuple_mul ⟨_, ho, rfl⟩ F.entry_tuple_mul (F.args_tuple_mul_2 _ _) (tuple_mul1 l its.toArray n dd sl t hi) ⟨ho, .ref l, H, I, rfl, q1 rfl⟩)
    · have hk0 : k = 0 := by omega
      subst hk0
      refine go _ 0 (call_meets F.slot_tuple_mul ⟨_, ho, rfl⟩ F.entry_tuple_mul (F.args_tuple_mul_2 _ _) (tuple_mul0 l its.toArray n dd sl t hi) ⟨ho, ?_⟩)
      have q := q2 (by decide) s.heap.objs.size (I.hok.fresh (Nat.le_refl _))
      refine ⟨.ref s.heap.objs.size, _, I.laid (t' := s.toks) (o := .tup []) (fun b ob q => Heap.get?_push_of_some _ q) (Nat.le_refl _) ?_, rfl, q⟩
      exact ⟨Nat.zero_le _, [], .nil, IsTup.new _ _⟩
/-- t.index(x), the first place of it -/
def idxP (p : Int × Int) (ps : List (Int × Int)) : Nat := @List.idxOf _ instBEqOfDecidableEq p ps
def rIndexT (K : PySem.W.Frag) : V → List V → Hp → VK → Prop := fun x xs H Q => ∃ (y : V) (a b : Int) (ps : List (Int × Int)), xs = [y] ∧ Dp K H x (.tuple (ps.map fun p => .tuple [.int p.1, .int p.2])) ∧ Dp K H y (.tuple [.int a, .int b]) ∧ (a, b) ∈ ps ∧ Q (.int (idxP (a, b) ps : Nat)) H
theorem mt_indexT (hu : X.A.units + 65 < cLine) : MtR X "tuple.index" (rIndexT X.K) := by
  intro pins s σ H x xs v us Q I rx rxs h
  obtain ⟨y, a, b, ps, rfl, hl, hy, hm, q⟩ := h
  obtain ⟨u, rfl, ry⟩ := vals1 rxs
  obtain ⟨as, r1⟩ := Dp.reads I _ y u hy ry
  have hl0 := hl
  cases hl with
  | @tup l vs _ hs ha =>
    cases rx
    obtain ⟨its, rv, ht, hlen⟩ := I.tuple hs
    obtain ⟨as', r2⟩ := Dp.readsAll I _ _ its ha rv
    exact PySem.W.index_tuple_datum (α := Int × Int) (x := (a, b)) (xs := ps) (vs := its) ht ⟨as', r2⟩ ⟨as, r1⟩ (by show X.A.units + 1 + (max 0 0 + 1) < cLine; omega) hm ⟨.int (idxP (a, b) ps : Nat), H, I.tok _, ⟨_, rfl⟩, q⟩
end

/-! ### enumerate of a tuple -/
theorem enum_newT (l : Addr) (items : Array Value) (n : Nat) (dct : Option Addr) (sl : Array (Option Value)) :
    Meets (Builtin.«enumerate.__new__» ⟨[.type "enumerate", .ref l], []⟩) (fun _ R s => s.heap.get? l = some { cls := .type "tuple", dict := dct, data := .seq items n, slots := sl } ∧
      R (.ok (.ret (.ref (s.heap.push { cls := .type "tuple_iterator", data := .fields #[.ref l, .int 0 0] }).objs.size)))
        { s with heap := (s.heap.push { cls := .type "tuple_iterator", data := .fields #[.ref l, .int 0 0] }).push { cls := .type "enumerate", data := .fields #[.none, .bool false, .ref s.heap.objs.size, rawInt 0, .none, .none] } }) :=
  .of_wp fun prog w A R s h => by
    obtain ⟨hp, g, d, tk, os⟩ := s
    obtain ⟨hl, h⟩ := h
    have hsub := sub_enumerate
    have hL : Heap.IsTuple (Shared.heap ⟨hp, g, d, tk, os⟩) l items := ⟨_, hl, rfl, n, rfl⟩
    wp_walk using AutoSeq1.wpAny_loadPart' hl
    refine wpAny_stack_any fun st => wpAny_pure ?_
    split
    · rename_i c _ _ _ _ _
      cases (c == Value.type "enumerate")
      · wp_walk using AutoSeq1.wpAny_loadPart' hl, wpAny_pyIter_tuple hL
        exact ⟨_, rfl, h⟩
      · wp_walk using AutoSeq1.wpAny_loadPart' hl, wpAny_pyIter_tuple hL
        exact ⟨_, rfl, h⟩
    · wp_walk using AutoSeq1.wpAny_loadPart' hl, wpAny_pyIter_tuple hL
      exact ⟨_, rfl, h⟩
section
variable {prog : Program} {w : World} {A : Around} {E : Value → Shared → Prop} {s : Shared}
theorem enum_callT {l : Addr} {items : Array Value} {Q : Value → Shared → Prop} (hL : s.heap.IsTuple l items)
    (h : ∀ h', IsEnum h' (s.heap.objs.size + 1) s.heap.objs.size 0 .none → h'.IsTupleIter s.heap.objs.size l 0 → h'.objs.size = s.heap.objs.size + 2 → (∀ b o, s.heap.get? b = some o → h'.get? b = some o) →
      Q (.ref (s.heap.objs.size + 1)) { s with heap := h' }) : wpAny (model prog w) A (call (.type "enumerate") [.ref l]) Q E s := by
  obtain ⟨⟨c, dct, dt, sl⟩, hl, hc, n, hd⟩ := hL
  simp only at hc hd
  subst hc hd
  refine callType_new F.called_enumerate (by decide) (F.typeCall_enumerate_1 _) (F.newCall_enumerate_1 _) (fun obj => F.args_object_init_2 obj _) F.entry_enumerate_new (enum_newT l items n dct sl) ⟨hl, ?_⟩
  generalize ho : ({ cls := .type "tuple_iterator", data := .fields #[.ref l, .int 0 0] } : Obj) = o1
  have hz : (s.heap.push o1).objs.size = s.heap.objs.size + 1 := Heap.size_push ..
  show _ ∧ _
  rw [hz]
  generalize ho2 : ({ cls := .type "enumerate", data := .fields #[.none, .bool false, .ref s.heap.objs.size, rawInt 0, .none, .none] } : Obj) = o2
  have he : ((s.heap.push o1).push o2).get? (s.heap.objs.size + 1) = some o2 := by
    rw [← hz]
    exact Heap.get?_push_size _ (by rw [← ho2]; rfl)
  have h1 : ((s.heap.push o1).push o2).get? s.heap.objs.size = some o1 := Heap.get?_push_of_some _ (Heap.get?_push_size _ (by rw [← ho]; rfl))
  have he' : IsEnum ((s.heap.push o1).push o2) (s.heap.objs.size + 1) s.heap.objs.size 0 .none := by rw [← ho2] at he ⊢; exact he
  refine ⟨⟨_, he', ?_⟩, h _ he' ⟨o1, h1, by rw [← ho], by rw [← ho]; rfl⟩ (by rw [Heap.size_push, hz]) fun b o x => Heap.get?_push_of_some _ (Heap.get?_push_of_some _ x)⟩
  rfl
end
def IteT (K : PySem.W.Frag) (a : Addr) : It :=
  ⟨fun i H => ∃ (xs : List V) (x : V), SqT K H a xs ∧ xs[i]? = some x, fun i H v H' => ∃ T x, v = .ref T ∧ H T = none ∧ H' = upd H T (.tup [.int (i : Nat), x]) ∧ ∀ xs, SqT K H a xs → xs[i]? = some x, fun i H => ∃ xs : List V, SqT K H a xs ∧ xs.length = i⟩
section
variable {X : Cx} {pins : List (Addr × Obj)} {σ : L2.St} {H : Hp} {s : Shared}
/-- a new pair has come -/
theorem pair_in {h' : Heap} {tk : Nat} {ch : List Addr} {T : Addr} {x y : V} {u v : Value} (I : Inv X pins σ H s) (hk : ∀ b o, b ∉ ch → s.heap.get? b = some o → h'.get? b = some o) (hf : ∀ b ∈ ch, FpOk X pins H b) (hT : s.heap.objs.size ≤ T) (ht : h'.IsTuple T #[u, v]) (rx : RelV x u) (ry : RelV y v) :
    Inv X pins σ (upd H T (.tup [x, y])) { s with heap := h', toks := tk } := by
  refine I.turnedNew (t' := tk) hk hf hT ⟨by show 2 ≤ sizeLine; decide, [u, v], .cons rx (.cons ry .nil), ?_⟩
  obtain ⟨o, ho, hc, n, hd⟩ := ht
  exact ⟨o, ho, hc, n, hd⟩
theorem tup_ne {h : Heap} {a b : Addr} {its : Array Value} {o : Obj} (ha : IsTup h a its) (hb : h.get? b = some o) (hc : o.cls ≠ .type "tuple") : a ≠ b := by
  rintro rfl
  obtain ⟨o', h1, h2, _⟩ := ha
  rw [hb] at h1
  cases h1
  exact hc h2
end
theorem turn_enumT {P : Program} {w : World} {K : PySem.W.Frag} {elts : List Expr} {kk : Nat} {tpos : Pos} (a e it : Addr) :
    Turn P w K (.Tuple elts kk tpos) (IteT K a) [e, it] e (fun i h => (∃ old, IsEnum h e it ((0 : Int) + ((i : Nat) : Int)) old) ∧ h.IsTupleIter it a i ∧ e ≠ it) where
  mem := by simp
  obj := fun i h st b hb => by
    obtain ⟨⟨old, he⟩, ⟨o, ho, hc, hd⟩, _⟩ := st
    rcases List.mem_cons.mp hb with z | z
    · rw [z]; exact ⟨_, he, fun v q => nomatch q⟩
    · rw [List.mem_singleton.mp z]; exact ⟨o, ho, fun v q => by rw [hd] at q; cases q⟩
  keep := fun i h h' ⟨⟨old, he⟩, hi, hne⟩ k => ⟨⟨old, k e (by simp) _ he⟩, hi.at fun o q => k it (by simp) o q, hne⟩
  item := by
    intro X hP hw hK hc i pins s σ H E I hf st hg
    subst hP hw hK
    obtain ⟨⟨old, he⟩, hit, hne⟩ := st
    obtain ⟨xs, x, hq, hx⟩ := hg
    obtain ⟨its, rv, p, hz⟩ := I.tuple hq
    obtain ⟨u, hu, ru⟩ := rv.get hx
    obtain ⟨oi, hoi, hci, hdi⟩ := id hit
    have a1 : a ≠ it := tup_ne p hoi (by rw [hci]; decide)
    have a2 : a ≠ e := tup_ne p he (show Value.type "enumerate" ≠ .type "tuple" by decide)
    have hh : X.A.in1.handled = none := I.ok.hd hc
    have hlt : i < its.toArray.size := by rw [List.size_toArray, ← rv.length]; exact getElem?_lt hx
    have W := GoesN.enumFrom (prog := X.prog) (w := X.w) (A := X.A) (elts := elts) (x1 := kk) (pos := tpos) 0 (Draws.tuple hh it a a1 its.toArray) e hne (by simp [hne, Ne.symm a2]) (by simp)
    refine W.goes i s _ E hlt ⟨⟨old, he⟩, hit, p⟩ fun v h' tk hY st' hk htk => ?_
    obtain ⟨T, t, y, rfl, hT, hy, htup⟩ := hY
    have ey : y = u := by
      have hy' : its.toArray[i]? = some y := hy
      have hu' : its.toArray[i]? = some u := by simpa using hu
      rw [hu'] at hy'
      exact (Option.some.inj hy').symm
    subst ey
    obtain ⟨⟨old', he'⟩, hit', p'⟩ := st'
    rw [Int.zero_add] at htup
    refine ⟨.ref T, _, pair_in (x := .int (i : Nat)) (y := x) (tk := tk) I hk hf hT htup ⟨_, rfl⟩ ru, rfl, ⟨T, x, rfl, I.hok.fresh hT, rfl, fun ys hy => by rw [I.tuple_inj hy hq]; exact hx⟩, ⟨⟨old', he'⟩, hit', hne⟩, fun b hb => ?_⟩
    have hb' : b < s.heap.objs.size := by
      rcases List.mem_cons.mp hb with z | z
      · rw [z]; exact Heap.lt_size he
      · rw [List.mem_singleton.mp z]; exact Heap.lt_size hoi
    rw [upd_ne (Nat.ne_of_lt (Nat.lt_of_lt_of_le hb' hT))]
    exact (hf b hb).1
  done := by
    intro X hP hw hK hc i pins s σ H E I hf st hg
    subst hP hw hK
    obtain ⟨⟨old, he⟩, hit, hne⟩ := st
    obtain ⟨xs, hq, hx⟩ := hg
    obtain ⟨its, rv, p, hz⟩ := I.tuple hq
    obtain ⟨oi, hoi, hci, hdi⟩ := id hit
    have a1 : a ≠ it := tup_ne p hoi (by rw [hci]; decide)
    have hh : X.A.in1.handled = none := I.ok.hd hc
    have a2 : a ≠ e := tup_ne p he (show Value.type "enumerate" ≠ .type "tuple" by decide)
    have hn : i = its.toArray.size := by
      rw [List.size_toArray, ← rv.length]
      exact hx.symm
    have W := GoesN.enumFrom (prog := X.prog) (w := X.w) (A := X.A) (elts := elts) (x1 := kk) (pos := tpos) 0 (Draws.tuple hh it a a1 its.toArray) e hne (by simp [hne, Ne.symm a2]) (by simp)
    refine W.stops s _ E (by rw [← hn]; exact ⟨⟨old, he⟩, hit, p⟩) fun h' tk hk htk => I.turnedL (t' := tk) (ch := [e, it]) hk hf
  self := fun A i s Q E st h => let ⟨⟨_, he⟩, _⟩ := st; wpAny_pyIter_enum he h
def iEnumT (K : PySem.W.Frag) (ta : TA) : TI := fun σ H R => ta σ H fun vs H1 => ∃ a xs, vs = [.ref a] ∧ SqT K H1 a xs ∧ R (IteT K a) H1
theorem pi_enumT {X : Cx} {e : Expr} {ta : TA} {p pos tpos : Pos} {elts : List Expr} {kk : Nat} (hg : Gl X "enumerate") (hm : X.mg "enumerate" = none) (ha : PA X [e] ta) (hs : starEach [e] X.env = [(false, eval e X.env)] := by rfl) :
    PI X (.Tuple elts kk tpos) (.Call (.Name "enumerate" p) [e] [] pos) (iEnumT X.K ta) := by
  refine ⟨fun pins s σ H R I h => Call_ (ld_blt I hg hm PyProof.Rows.boot_enumerate (PyProof.Rows.callWith_type1 (thn (ha.run pos pins s σ H _ I h) fun us s1 ⟨vs, H1, I1, r1, q1⟩ => ?_) hs rfl))⟩
  obtain ⟨a, xs, rfl, hq, q⟩ := q1
  obtain ⟨u, rfl, ru⟩ := vals1 r1
  cases ru
  obtain ⟨its, rv, p', hz⟩ := I1.tuple hq
  refine enum_callT p' fun h' he hit hsz hk => wpAny_pyIter_enum he ?_
  have fr : ∀ b ∈ [s1.heap.objs.size + 1, s1.heap.objs.size], FpOk X pins H1 b := fun b hb => by
    have hle : s1.heap.objs.size ≤ b := by
      rcases List.mem_cons.mp hb with z | z
      · rw [z]; exact Nat.le_succ _
      · rw [List.mem_singleton.mp z]; exact Nat.le_refl _
    exact I1.fpOk hle (I1.hok.fresh hle)
  exact ⟨s1.heap.objs.size + 1, [s1.heap.objs.size + 1, s1.heap.objs.size], _, _, H1, rfl, I1.kept (t' := s1.toks) hk, turn_enumT a (s1.heap.objs.size + 1) s1.heap.objs.size, ⟨⟨.none, he⟩, hit, Nat.succ_ne_self _⟩, fr, q⟩
theorem walk_enumT {K : PySem.W.Frag} {a : Addr} {xs : List V} : Walk (IteT K a) xs.length (fun H => SqT K H a xs) (YPair (fun i => some (.int (i : Nat))) (fun i => xs[i]?)) := by
  refine ⟨fun i H hi q => ⟨xs, xs[i], q, List.getElem?_eq_getElem hi⟩, fun H q => ⟨xs, q, rfl⟩, fun i H v H' hi q y => ?_⟩
  obtain ⟨T, x, h1, h2, h3, h4⟩ := y
  exact ⟨T, .int (i : Nat), x, h1, h2, h3, rfl, h4 xs q⟩
section
variable {K : PySem.W.Frag} {Ps : Tys} {P P' R : Ty} {te ta tb : TE} {tl : TA} {Qs Rs : List Ty} {ts us : List T} {x : Str}
theorem i_enumT (h : EvX te Ps (TupP Qs)) : EvI (iEnumT K (tCons te tNil)) Ps ((List.zip ((List.range Qs.length).map fun (k : Nat) => Dat (.int (k : Int))) Qs).map fun p => TupP [p.1, p.2]) := fun F H σ e s Z q =>
  (a_cons h a_nil) F H σ e s _ fun vs F1 H1 g1 p1 => by
    cases p1 with
    | cons p1 p2 =>
      cases p2
      obtain ⟨a, xs, rfl, a1, a2⟩ := p1
      refine ⟨a, xs, rfl, SqT.of (g1.fh _ _ a1), q _ F1 H1 g1 (pair_walk (us := (List.range xs.length).map fun (k : Nat) => V.int k) (walk_enumT (K := K)) (by rw [a2.len]; exact AllP.map (f := fun (k : Nat) => Dat (.int (k : Int))) (g := fun (k : Nat) => V.int k) (fun k => RT.int _) _) a2 (by simp [a2.len]) (fun i hi => ?_) (fun _ _ => rfl) fun F' H' ea eb => SqT.of (eb _ _ (ea _ _ a1)))⟩
      rw [List.getElem?_map, List.getElem?_range hi]
      rfl
/-- t * k -/
theorem e_rep {n : Nat} (ha : EvX ta Ps (TupP Qs)) (hb : EvX tb Ps (Dat (.int (n : Int)))) (h0 : Qs ≠ []) (h1 : n ≤ 1000) (h2 : Qs.length ≤ 1000) : EvX (tOp (rRepA K) ta tb) Ps (TupP (List.replicate n Qs).flatten) :=
  x_op ha hb fun F H x y e ⟨a, xs, k1, k2, k3⟩ p2 Q q => by
    refine ⟨a, n, xs, k1, dat_int p2, SqT.of (e _ _ k2), fun z => ?_, by omega, by omega, by rw [← k3.len]; exact h2, fun z => ?_, fun z p hp => ?_⟩
    · rw [z] at k3
      cases k3
      exact h0 rfl
    · have z' : n = 1 := by omega
      subst z'
      exact q _ F H (.refl e) ⟨a, xs, rfl, k2, by simpa using k3⟩
    · have hr : ∀ n : Nat, AllP F (List.replicate n Qs).flatten (List.replicate n xs).flatten := fun n => by
        induction n with
        | zero => exact .nil
        | succ n ih =>
          rw [List.replicate_succ, List.replicate_succ, List.flatten_cons, List.flatten_cons]
          exact k3.append ih
      exact q _ _ _ (.new e hp) ⟨p, _, rfl, upd_same, by rw [Int.toNat_natCast]; exact (hr n).up (Same.upd_new (e.free hp))⟩
theorem e_repD {n : Nat} {t : T} (ha : EvX ta Ps (Dat (.tup [t]))) (hb : EvX tb Ps (Dat (.int (n : Int)))) (h1 : n ≤ 1000) : EvX (tOp (rRepA K) ta tb) Ps (Dat (.tup (List.replicate n t))) := by
  have := e_rep (K := K) (ev_untup ha) hb (by simp) h1 (by simp)
  refine ev_tup (this.cast (congrArg TupP ?_))
  have hr : ∀ n : Nat, (List.replicate n ([t].map Dat)).flatten = (List.replicate n t).map Dat := fun n => by
    induction n with
    | zero => rfl
    | succ n ih =>
      rw [List.replicate_succ, List.flatten_cons, ih]
      rfl
  exact hr n
end

/-! ### a pure def, an __init__ -/
def stT (N : List Str) (Ps : List Ty) : Tys := Ps.map some ++ List.replicate (N.length - Ps.length) none
section
variable {P : Program} {w : World} {K : PySem.W.Frag} {mg : Str → Option Value} {base : Heap} {x qual : Str} {st : Stmt} {f C : Addr} {fd : FuncData} {N ps : List Str} {k : Nat} {ι : Type} {pre : ι → Prop} {io : PSp ι}
theorem slots_st {F : Hp} {Ps : List Ty} {vs : List V} (h : AllP F Ps vs) (N : List Str) : Slots F (start N vs) (stT N Ps) := by
  have := Slots.start h N
  unfold stT
  rw [h.len]
  exact this
theorem okG (F : Fun K x qual st f fd) (S : FnScope N ps (defScope st)) (len : ∀ i, (io i).1.length = ps.length)
    (hbody : ∀ (cdv : Value) (A : Around) (outer : List Env) (s : Shared) (H : Hp) (E : XK), Room k (A.deeper (envOfC qual (defScope st) s.heap.objs.size f cdv)) →
      ∃ t, PSs (cxOf CX0 P w K mg base N qual (defScope st) f cdv A outer s H E).nox (defBody st) t ∧
        ∀ i F vs Q, pre i → RS F H F H (start N vs) (stT N (io i).1) → (∀ v F' H', Gr F H F' H' → (io i).2.p F' v → Q v H') → t { nx := fun _ H' => Q .non H', rt := Q } (start N vs) H) : FnOk P w K mg base CX0 (k + 1) f fd ps (SpG pre io) := by
  refine F.ok S (fun vs H Q E h => ?_) (fun cdv A outer s H vs Q E hr h => ?_)
  · obtain ⟨i, F, _, _, hv, _⟩ := h
    rw [← hv.len, len]
  · obtain ⟨i, F, hp, e, hv, q⟩ := h
    obtain ⟨t, d, r⟩ := hbody cdv A outer s H E hr
    exact ⟨t, d, r i F vs Q hp (.here e (slots_st hv N)) q⟩
theorem okN (F : Fun K x qual st f fd) (S : FnScope N ps (defScope st)) (len : ∀ i, (io i).1.length + 1 = ps.length)
    (hbody : ∀ (cdv : Value) (A : Around) (outer : List Env) (s : Shared) (H : Hp) (E : XK), Room k (A.deeper (envOfC qual (defScope st) s.heap.objs.size f cdv)) →
      ∃ t, PSs (cxOf CX0 P w K mg base N qual (defScope st) f cdv A outer s H E).nox (defBody st) t ∧
        ∀ i F vs Q x, pre i → RS F (hid H x) F H (start N vs) (stT N (Vl (.ref x) :: (io i).1)) → Op x C F H [] → (∀ F' H', Gr F (hid H x) F' H' → (io i).2.p F' (.ref x) → Q .non H') → t { nx := fun _ H' => Q .non H', rt := Q } (start N vs) H) : FnOk P w K mg base CX0 (k + 1) f fd ps (SpN C pre io) := by
  refine F.ok S (fun vs H Q E h => ?_) (fun cdv A outer s H vs Q E hr h => ?_)
  · obtain ⟨i, F, x, dx, us, _, rfl, _, _, _, hv, _⟩ := h
    rw [List.length_cons, ← hv.len, len]
  · obtain ⟨i, F, x, dx, us, hp, rfl, e, hf, hx, hv, q⟩ := h
    obtain ⟨t, d, r⟩ := hbody cdv A outer s H E hr
    refine ⟨t, d, r i F _ Q x hp ⟨⟨.refl _, fun b o z => ?_, e, fun _ _ z => z⟩, slots_st (Ps := Vl (.ref x) :: (io i).1) (.cons rfl hv) N⟩ ⟨hf, dx, [], hx, .nil⟩ q⟩
    by_cases hb : b = x
    · subst hb
      rw [hid_same] at z
      cases z
    · rw [hid_ne hb] at z
      exact z
end

section
variable {K : PySem.W.Frag} {Ps : Tys} {ta tb tc : TE} {i j l : Int}
theorem x_chain (ha : EvX ta Ps (Dat (.int i))) (hb : EvX tb Ps (Dat (.int j))) (hc : i ≤ j → EvX tc Ps (Dat (.int l))) : EvX (tChain rLeI rLeI ta tb tc) Ps (Dat (.bl (decide (i ≤ j) && decide (j ≤ l)))) := fun F H σ e s Q q =>
  ha F H σ e s _ fun x F1 H1 g1 p1 => hb F1 H1 σ g1.fh (s.up g1.ff) _ fun y F2 H2 g2 p2 => by
    have p1' := dat_int p1
    have p2' := dat_int p2
    refine ⟨i, j, p1', p2', decide (i ≤ j), rfl, ?_⟩
    by_cases h : i ≤ j
    · rw [decide_eq_true h] at q ⊢
      rw [if_pos rfl]
      exact hc h F2 H2 σ g2.fh (s.up (g1.trans g2).ff) _ fun z F3 H3 g3 p3 => ⟨j, l, p2', dat_int p3, q _ F3 H3 ((g1.trans g2).trans g3) (by rw [Bool.true_and]; exact .bl _)⟩
    · rw [decide_eq_false h] at q ⊢
      rw [if_neg Bool.false_ne_true]
      exact q _ F2 H2 (g1.trans g2) (by rw [Bool.false_and]; exact .bl _)
end
end G
set_option autoImplicit false
/-! The mirror: what both steppings compute, as plain Lean. -/
namespace G

inductive Row where
  | set (r : Nat) (n : Int) | copy (r s : Nat) | add (r s t : Nat) | take (r s t : Nat) | put (c r : Nat) | look (r c : Nat) | tell (r : Nat) | rest
  | same (r s to : Nat) | less (r s to : Nat) | go (to : Nat) | call (to : Nat) | back
  deriving DecidableEq
structure Put where
  w : Nat
  n : Nat
  c : Nat
  x : Int
  deriving DecidableEq
structure MS where
  row : Nat
  regs : List Int
  kept : List Nat
  told : List Int
  cells : List Int
  diary : List Put
  fault : Bool
  deriving DecidableEq
structure SD where
  ss : List MS
  ls : List (List Put)
  deriving DecidableEq
inductive Step where
  | act (m : Nat) | come (y x : Nat)
  deriving DecidableEq
/-- a web with a program -/
structure PG where
  ws : List (Nat × Nat)
  os : List Nat
  cs : List (List Row)

def reg (m : MS) (r : Nat) : Int := m.regs.getD r 0
def bad (m : MS) : MS := { m with fault := true }
def num (m : MS) (r : Nat) (v : Int) : MS := if v.natAbs ≤ 1000000000000 then { m with row := m.row + 1, regs := m.regs.set r v } else bad m
/-- the state behind a row, and what is put -/
def aft (m : MS) : Row → MS × Option (Nat × Int)
  | .set r n => (num m r n, none)
  | .copy r s => (num m r (reg m s), none)
  | .add r s t => (num m r (reg m s + reg m t), none)
  | .take r s t => (num m r (reg m s - reg m t), none)
  | .look r c => (num m r (m.cells.getD c 0), none)
  | .put c r => ({ m with row := m.row + 1 }, some (c, reg m r))
  | .tell r => ({ m with row := m.row + 1, told := m.told ++ [reg m r] }, none)
  | .rest => ({ m with row := m.row + 1 }, none)
  | .same r s to => ({ m with row := if reg m r = reg m s then to else m.row + 1 }, none)
  | .less r s to => ({ m with row := if reg m r < reg m s then to else m.row + 1 }, none)
  | .go to => ({ m with row := to }, none)
  | .call to => (if m.kept.length < 20 then { m with row := to, kept := m.kept ++ [m.row + 1] } else bad m, none)
  | .back => (if 0 < m.kept.length then { m with row := m.kept.getLastD 0, kept := m.kept.dropLast } else bad m, none)
def rowAt (code : List Row) (i : Nat) : Row := code.getD i .rest
def codeOf (P : PG) (i : Nat) : List Row := P.cs.getD i []
def ms0 : MS := ⟨0, [], [], [], [], [], false⟩
def msAt (sd : SD) (i : Nat) : MS := sd.ss.getD i ms0
def noted (m : MS) (p : Put) : MS := { m with cells := m.cells.set p.c p.x, diary := m.diary ++ [p] }
def sent (ws : List (Nat × Nat)) (ls : List (List Put)) (m : Nat) (p : Put) : List (List Put) := (ws.zip ls).map fun q => if q.1.1 = m then q.2 ++ [p] else q.2
def everywhere (ss : List MS) (m : MS) : Bool := m.diary.all fun p => ss.all fun o => decide (p ∈ o.diary)
def runs (P : PG) (ss : List MS) (i : Nat) : Bool :=
  let m := ss.getD i ms0
  if m.fault || decide (m.row = (codeOf P i).length) then false else if rowAt (codeOf P i) m.row = .rest then everywhere ss m else true
def can (P : PG) (sd : SD) : List Step :=
  ((List.range P.cs.length).filter (runs P sd.ss)).map .act ++ ((P.ws.zip sd.ls).filter fun q => decide (0 < q.2.length)).map fun q => .come q.1.1 q.1.2
def cntBy (i : Nat) (d : List Put) : Nat := (d.filter fun p => decide (p.w = i)).length
def actOn (P : PG) (sd : SD) (i : Nat) : SD :=
  let m := msAt sd i
  match aft m (rowAt (codeOf P i) m.row) with
  | (m', none) => ⟨sd.ss.set i m', sd.ls⟩
  | (m', some (c, x)) =>
    let p : Put := ⟨i, cntBy i m.diary, c, x⟩
    ⟨sd.ss.set i (noted m' p), sent P.ws sd.ls i p⟩
def comeOn (P : PG) (sd : SD) (y x : Nat) : SD :=
  let j := P.ws.idxOf (y, x)
  match sd.ls.getD j [] with
  | [] => sd
  | p :: r =>
    let ls := sd.ls.set j r
    if p ∈ (msAt sd x).diary then ⟨sd.ss, ls⟩ else ⟨sd.ss.set x (noted (msAt sd x) p), sent P.ws ls x p⟩
def behind (P : PG) (sd : SD) : Step → SD
  | .act i => actOn P sd i
  | .come y x => comeOn P sd y x
def endedM (code : List Row) (m : MS) : Bool := !m.fault && decide (m.row = code.length)
def ended (P : PG) (sd : SD) : Bool := (sd.ss.zip P.cs).all fun q => endedM q.2 q.1
def outc (sd : SD) : List (List Int) := sd.ss.map (·.told)
def first (P : PG) : SD := ⟨List.replicate P.cs.length ⟨0, List.replicate 8 0, [], [], List.replicate P.os.length 0, [], false⟩, List.replicate P.ws.length []⟩

/-! ### what holds of all of them -/
def RowOk (os : List Nat) (i len : Nat) : Row → Prop
  | .set r n => r < 8 ∧ -1000000 ≤ n ∧ n ≤ 1000000
  | .copy r s => r < 8 ∧ s < 8
  | .add r s t => r < 8 ∧ s < 8 ∧ t < 8
  | .take r s t => r < 8 ∧ s < 8 ∧ t < 8
  | .look r c => r < 8 ∧ c < os.length
  | .put c r => os[c]? = some i ∧ r < 8
  | .tell r => r < 8
  | .rest => True
  | .same r s to => r < 8 ∧ s < 8 ∧ to ≤ len
  | .less r s to => r < 8 ∧ s < 8 ∧ to ≤ len
  | .go to => to ≤ len
  | .call to => to ≤ len
  | .back => True
structure PGOk (P : PG) : Prop where
  n1 : 1 ≤ P.cs.length
  n4 : P.cs.length ≤ 4
  o1 : 1 ≤ P.os.length
  o3 : P.os.length ≤ 3
  own : ∀ o ∈ P.os, o < P.cs.length
  rows : ∀ (i : Nat) (code : List Row), P.cs[i]? = some code → code.length ≤ 6 ∧ ∀ r ∈ code, RowOk P.os i code.length r
  wok : ∀ q ∈ P.ws, q.1 < P.cs.length ∧ q.2 < P.cs.length ∧ q.1 ≠ q.2
  wlt : P.ws.Pairwise fun p q => p.1 < q.1 ∨ p.1 = q.1 ∧ p.2 < q.2
/-- the copy of the cells is what the diary makes of them -/
def cellsOf (n : Nat) (d : List Put) : List Int := d.foldl (fun cs p => cs.set p.c p.x) (List.replicate n 0)
structure MSOk (P : PG) (k i : Nat) (m : MS) : Prop where
  regs : m.regs.length = 8
  row : m.row ≤ (codeOf P i).length
  kept : ∀ j ∈ m.kept, j ≤ (codeOf P i).length
  kmax : m.kept.length ≤ 20
  cells : m.cells = cellsOf P.os.length m.diary
  cok : ∀ p ∈ m.diary, p.c < P.os.length
  told : m.told.length ≤ k
  diary : m.diary.length ≤ k
structure SDOk (P : PG) (k : Nat) (sd : SD) : Prop where
  len : sd.ss.length = P.cs.length
  ms : ∀ (i : Nat) (m : MS), sd.ss[i]? = some m → MSOk P k i m
  lln : sd.ls.length = P.ws.length
  lok : ∀ l ∈ sd.ls, l.length ≤ k ∧ ∀ p ∈ l, p.c < P.os.length

theorem cellsOf_len (n : Nat) (d : List Put) : (cellsOf n d).length = n := by
  unfold cellsOf
  have : ∀ (d : List Put) (cs : List Int), cs.length = n → (d.foldl (fun cs p => cs.set p.c p.x) cs).length = n := by
    intro d
    induction d with
    | nil => intro cs h; exact h
    | cons p d ih => intro cs h; exact ih _ (by rw [List.length_set]; exact h)
  exact this d _ (List.length_replicate ..)
theorem cellsOf_snoc (n : Nat) (d : List Put) (p : Put) : cellsOf n (d ++ [p]) = (cellsOf n d).set p.c p.x := by
  unfold cellsOf
  rw [List.foldl_append]
  rfl
theorem MSOk.mono {P : PG} {k l i : Nat} {m : MS} (h : MSOk P k i m) (e : k ≤ l) : MSOk P l i m :=
  ⟨h.regs, h.row, h.kept, h.kmax, h.cells, h.cok, Nat.le_trans h.told e, Nat.le_trans h.diary e⟩
theorem SDOk.mono {P : PG} {k l : Nat} {sd : SD} (h : SDOk P k sd) (e : k ≤ l) : SDOk P l sd :=
  ⟨h.len, fun i m q => (h.ms i m q).mono e, h.lln, fun q hq => ⟨Nat.le_trans (h.lok q hq).1 e, (h.lok q hq).2⟩⟩
theorem SDOk.first {P : PG} (_ : PGOk P) : SDOk P 0 (first P) := by
  refine ⟨List.length_replicate .., fun i m q => ?_, List.length_replicate .., fun l hl => ?_⟩
  · have e : m = _ := (List.mem_replicate.mp (List.mem_of_getElem? q)).2
    subst e
    exact ⟨List.length_replicate .., Nat.zero_le _, fun j hj => absurd hj List.not_mem_nil, Nat.zero_le _, rfl, fun p hp => absurd hp List.not_mem_nil, Nat.le_refl _, Nat.le_refl _⟩
  · have e := (List.mem_replicate.mp hl).2
    subst e
    exact ⟨Nat.le_refl _, fun p hp => by cases hp⟩
theorem SDOk.at_ {P : PG} {k i : Nat} {sd : SD} (h : SDOk P k sd) (hi : i < P.cs.length) : sd.ss[i]? = some (msAt sd i) ∧ MSOk P k i (msAt sd i) := by
  have hl : i < sd.ss.length := by rw [h.len]; exact hi
  have e : sd.ss[i]? = some (msAt sd i) := by
    unfold msAt
    rw [List.getD_eq_getElem?_getD, List.getElem?_eq_getElem hl]
    rfl
  exact ⟨e, h.ms i _ e⟩
theorem code_at {P : PG} {i : Nat} (hi : i < P.cs.length) : P.cs[i]? = some (codeOf P i) := by
  unfold codeOf
  rw [List.getD_eq_getElem?_getD, List.getElem?_eq_getElem hi]
  rfl
theorem row_at {code : List Row} {i : Nat} (hi : i < code.length) : code[i]? = some (rowAt code i) := by
  unfold rowAt
  rw [List.getD_eq_getElem?_getD, List.getElem?_eq_getElem hi]
  rfl
theorem PGOk.row {P : PG} (h : PGOk P) {i j : Nat} (hi : i < P.cs.length) (hj : j < (codeOf P i).length) : RowOk P.os i (codeOf P i).length (rowAt (codeOf P i) j) :=
  (h.rows i _ (code_at hi)).2 _ (List.mem_of_getElem? (row_at hj))
/-- a machine can do its next row: it stands at a row -/
theorem runs_row {P : PG} {k i : Nat} {sd : SD} (h : SDOk P k sd) (hi : i < P.cs.length) (hr : runs P sd.ss i = true) : (msAt sd i).fault = false ∧ (msAt sd i).row < (codeOf P i).length := by
  have hm := (h.at_ hi).2
  unfold runs at hr
  change (if ((msAt sd i).fault || decide ((msAt sd i).row = (codeOf P i).length)) = true then false else _) = true at hr
  by_cases c : ((msAt sd i).fault || decide ((msAt sd i).row = (codeOf P i).length)) = true
  · rw [if_pos c] at hr
    cases hr
  · simp only [Bool.or_eq_true, decide_eq_true_eq, not_or, Bool.not_eq_true] at c
    exact ⟨c.1, Nat.lt_of_le_of_ne hm.row c.2⟩
theorem num_ok {P : PG} {k i r : Nat} {v : Int} {m : MS} (h : MSOk P k i m) (hr : m.row < (codeOf P i).length) : MSOk P (k + 1) i (num m r v) := by
  have h' := h.mono (Nat.le_succ k)
  unfold num
  split
  · exact ⟨by show (m.regs.set r v).length = 8; rw [List.length_set]; exact h.regs, hr, h'.kept, h'.kmax, h'.cells, h'.cok, h'.told, h'.diary⟩
  · exact ⟨h'.regs, h'.row, h'.kept, h'.kmax, h'.cells, h'.cok, h'.told, h'.diary⟩
theorem aft_ok {P : PG} {k i : Nat} {m : MS} {r : Row} (h : MSOk P k i m) (hr : m.row < (codeOf P i).length) (ho : RowOk P.os i (codeOf P i).length r) :
    MSOk P (k + 1) i (aft m r).1 ∧ (aft m r).1.diary = m.diary ∧ (aft m r).1.cells = m.cells ∧ ∀ c x, (aft m r).2 = some (c, x) → c < P.os.length := by
  have h' := h.mono (Nat.le_succ k)
  have nd : ∀ (r : Nat) (v : Int), (num m r v).diary = m.diary ∧ (num m r v).cells = m.cells := fun r v => by
    unfold num
    split <;> exact ⟨rfl, rfl⟩
  have simple : ∀ (row : Nat), row ≤ (codeOf P i).length → MSOk P (k + 1) i { m with row := row } := fun row e => ⟨h'.regs, e, h'.kept, h'.kmax, h'.cells, h'.cok, h'.told, h'.diary⟩
  have bd : MSOk P (k + 1) i (bad m) := ⟨h'.regs, h'.row, h'.kept, h'.kmax, h'.cells, h'.cok, h'.told, h'.diary⟩
  cases r with
  | set r n => exact ⟨num_ok h hr, (nd _ _).1, (nd _ _).2, fun c x e => by cases e⟩
  | copy r s => exact ⟨num_ok h hr, (nd _ _).1, (nd _ _).2, fun c x e => by cases e⟩
  | add r s t => exact ⟨num_ok h hr, (nd _ _).1, (nd _ _).2, fun c x e => by cases e⟩
  | take r s t => exact ⟨num_ok h hr, (nd _ _).1, (nd _ _).2, fun c x e => by cases e⟩
  | look r c => exact ⟨num_ok h hr, (nd _ _).1, (nd _ _).2, fun c x e => by cases e⟩
  | put c r =>
    refine ⟨simple _ hr, rfl, rfl, fun c' x e => ?_⟩
    have e' : (c, reg m r) = (c', x) := Option.some.inj e
    cases e'
    exact (List.getElem?_eq_some_iff.mp ho.1).1
  | tell r =>
    refine ⟨⟨h'.regs, hr, h'.kept, h'.kmax, h'.cells, h'.cok, ?_, h'.diary⟩, rfl, rfl, fun c x e => by cases e⟩
    show (m.told ++ [reg m r]).length ≤ k + 1
    rw [List.length_append, List.length_singleton]
    exact Nat.succ_le_succ h.told
  | rest => exact ⟨simple _ hr, rfl, rfl, fun c x e => by cases e⟩
  | same r s to => exact ⟨simple _ (by split; exact ho.2.2; exact hr), rfl, rfl, fun c x e => by cases e⟩
  | less r s to => exact ⟨simple _ (by split; exact ho.2.2; exact hr), rfl, rfl, fun c x e => by cases e⟩
  | go to => exact ⟨simple _ ho, rfl, rfl, fun c x e => by cases e⟩
  | call to =>
    refine ⟨?_, ?_, ?_, fun c x e => by cases e⟩
    · show MSOk P (k + 1) i (if m.kept.length < 20 then _ else _)
      split
      · rename_i c
        refine ⟨h'.regs, ho, fun j hj => ?_, ?_, h'.cells, h'.cok, h'.told, h'.diary⟩
        · rcases List.mem_append.mp hj with z | z
          · exact h.kept j z
          · rw [List.mem_singleton.mp z]; exact hr
        · show (m.kept ++ [m.row + 1]).length ≤ 20
          rw [List.length_append, List.length_singleton]
          exact c
      · exact bd
    · show (if m.kept.length < 20 then _ else _ : MS).diary = _
      split <;> rfl
    · show (if m.kept.length < 20 then _ else _ : MS).cells = _
      split <;> rfl
  | back =>
    refine ⟨?_, ?_, ?_, fun c x e => by cases e⟩
    · show MSOk P (k + 1) i (if 0 < m.kept.length then _ else _)
      split
      · rename_i c
        have hne : m.kept ≠ [] := fun z => by rw [z] at c; exact absurd c (by decide)
        refine ⟨h'.regs, ?_, fun j hj => h.kept j (List.dropLast_subset _ hj), ?_, h'.cells, h'.cok, h'.told, h'.diary⟩
        · show m.kept.getLastD 0 ≤ _
          rw [List.getLastD_eq_getLast?, List.getLast?_eq_some_getLast hne]
          exact h.kept _ (List.getLast_mem hne)
        · show m.kept.dropLast.length ≤ 20
          rw [List.length_dropLast]
          exact Nat.le_trans (Nat.sub_le _ _) h.kmax
      · exact bd
    · show (if 0 < m.kept.length then _ else _ : MS).diary = _
      split <;> rfl
    · show (if 0 < m.kept.length then _ else _ : MS).cells = _
      split <;> rfl
theorem noted_ok {P : PG} {k l i : Nat} {m : MS} {p : Put} (h : MSOk P l i m) (hd : m.diary.length ≤ k) (hl : l ≤ k + 1) (hp : p.c < P.os.length) : MSOk P (k + 1) i (noted m p) := by
  have h' := h.mono hl
  refine ⟨h'.regs, h'.row, h'.kept, h'.kmax, ?_, fun q hq => ?_, h'.told, ?_⟩
  · show m.cells.set p.c p.x = cellsOf P.os.length (m.diary ++ [p])
    rw [cellsOf_snoc, h.cells]
  · rcases List.mem_append.mp hq with z | z
    · exact h.cok q z
    · rw [List.mem_singleton.mp z]; exact hp
  · show (m.diary ++ [p]).length ≤ k + 1
    rw [List.length_append, List.length_singleton]
    exact Nat.succ_le_succ hd
theorem sent_ok {P : PG} {k i : Nat} {ls : List (List Put)} {p : Put} (hl : ls.length = P.ws.length) (ho : ∀ l ∈ ls, l.length ≤ k ∧ ∀ p ∈ l, p.c < P.os.length) (hp : p.c < P.os.length) :
    (sent P.ws ls i p).length = P.ws.length ∧ ∀ l ∈ sent P.ws ls i p, l.length ≤ k + 1 ∧ ∀ p ∈ l, p.c < P.os.length := by
  unfold sent
  refine ⟨by rw [List.length_map, List.length_zip, hl, Nat.min_self], fun l hm => ?_⟩
  obtain ⟨q, hq, rfl⟩ := List.mem_map.mp hm
  have h2 := ho q.2 (List.of_mem_zip hq).2
  split
  · refine ⟨by rw [List.length_append, List.length_singleton]; exact Nat.succ_le_succ h2.1, fun r hr => ?_⟩
    rcases List.mem_append.mp hr with z | z
    · exact h2.2 r z
    · rw [List.mem_singleton.mp z]; exact hp
  · exact ⟨Nat.le_succ_of_le h2.1, h2.2⟩
theorem set_get {α : Type} {l : List α} {i j : Nat} {a b : α} (h : (l.set i a)[j]? = some b) : (j = i ∧ b = a) ∨ (j ≠ i ∧ l[j]? = some b) := by
  by_cases e : i = j
  · subst e
    by_cases hl : i < l.length
    · rw [List.getElem?_set_self hl] at h
      exact .inl ⟨rfl, (Option.some.inj h).symm⟩
    · rw [List.getElem?_eq_none (by rw [List.length_set]; omega)] at h
      cases h
  · rw [List.getElem?_set_ne e] at h
    exact .inr ⟨fun z => e z.symm, h⟩
theorem SDOk.put {P : PG} {k i : Nat} {sd : SD} {m : MS} {ls : List (List Put)} (h : SDOk P k sd) (hm : MSOk P (k + 1) i m) (hl : ls.length = P.ws.length) (ho : ∀ l ∈ ls, l.length ≤ k + 1 ∧ ∀ p ∈ l, p.c < P.os.length) : SDOk P (k + 1) ⟨sd.ss.set i m, ls⟩ := by
  refine ⟨by rw [List.length_set]; exact h.len, fun j m' q => ?_, hl, ho⟩
  rcases set_get q with ⟨rfl, rfl⟩ | ⟨_, q⟩
  · exact hm
  · exact (h.ms j m' q).mono (Nat.le_succ _)
theorem actOn_ok {P : PG} {k i : Nat} {sd : SD} (hP : PGOk P) (h : SDOk P k sd) (hi : i < P.cs.length) (hr : runs P sd.ss i = true) : SDOk P (k + 1) (actOn P sd i) := by
  obtain ⟨_, hrow⟩ := runs_row h hi hr
  have hm := (h.at_ hi).2
  obtain ⟨a1, a2, a3, a4⟩ := aft_ok hm hrow (hP.row hi hrow)
  have lo : ∀ l ∈ sd.ls, l.length ≤ k + 1 ∧ ∀ p ∈ l, p.c < P.os.length := fun l hl => ⟨Nat.le_succ_of_le (h.lok l hl).1, (h.lok l hl).2⟩
  unfold actOn
  show SDOk P (k + 1) (match aft (msAt sd i) (rowAt (codeOf P i) (msAt sd i).row) with | (m', none) => _ | (m', some (c, x)) => _)
  rcases e : aft (msAt sd i) (rowAt (codeOf P i) (msAt sd i).row) with ⟨m', _ | ⟨c, x⟩⟩
  · rw [e] at a1
    exact h.put a1 h.lln lo
  · rw [e] at a1 a2 a4
    have hc : c < P.os.length := a4 c x rfl
    obtain ⟨s1, s2⟩ := sent_ok (i := i) (p := ⟨i, cntBy i (msAt sd i).diary, c, x⟩) h.lln h.lok hc
    exact h.put (noted_ok a1 (by rw [show m'.diary = (msAt sd i).diary from a2]; exact hm.diary) (Nat.le_refl _) hc) s1 s2
theorem comeOn_ok {P : PG} {k y x : Nat} {sd : SD} (hP : PGOk P) (h : SDOk P k sd) (hw : (y, x) ∈ P.ws) : SDOk P (k + 1) (comeOn P sd y x) := by
  have hx : x < P.cs.length := (hP.wok _ hw).2.1
  have hm := (h.at_ hx).2
  unfold comeOn
  show SDOk P (k + 1) (match sd.ls.getD (P.ws.idxOf (y, x)) [] with | [] => sd | p :: r => _)
  rcases e : sd.ls.getD (P.ws.idxOf (y, x)) [] with _ | ⟨p, r⟩
  · exact h.mono (Nat.le_succ _)
  · have hj : P.ws.idxOf (y, x) < sd.ls.length := by
      rw [h.lln]
      exact List.idxOf_lt_length_of_mem hw
    have hmem : (p :: r) ∈ sd.ls := by
      rw [List.getD_eq_getElem?_getD, List.getElem?_eq_getElem hj] at e
      have e' : sd.ls[P.ws.idxOf (y, x)] = p :: r := e
      rw [← e']
      exact List.getElem_mem hj
    obtain ⟨l1, l2⟩ := h.lok _ hmem
    have lo : ∀ l ∈ sd.ls.set (P.ws.idxOf (y, x)) r, l.length ≤ k ∧ ∀ p ∈ l, p.c < P.os.length := fun l hl => by
      rcases List.mem_or_eq_of_mem_set hl with z | z
      · exact h.lok l z
      · subst z
        exact ⟨Nat.le_trans (Nat.le_succ _) l1, fun q hq => l2 q (List.mem_cons_of_mem _ hq)⟩
    have hp : p.c < P.os.length := l2 p List.mem_cons_self
    have ll : (sd.ls.set (P.ws.idxOf (y, x)) r).length = P.ws.length := by rw [List.length_set]; exact h.lln
    show SDOk P (k + 1) (if p ∈ (msAt sd x).diary then _ else _)
    split
    · exact ⟨h.len, fun i m q => (h.ms i m q).mono (Nat.le_succ _), ll, fun l hl => ⟨Nat.le_succ_of_le (lo l hl).1, (lo l hl).2⟩⟩
    · obtain ⟨s1, s2⟩ := sent_ok (i := x) (p := p) ll lo hp
      exact h.put (noted_ok hm hm.diary (Nat.le_succ _) hp) s1 s2
/-- a step that can be done, in parts -/
theorem can_act {P : PG} {sd : SD} {i : Nat} : .act i ∈ can P sd ↔ i < P.cs.length ∧ runs P sd.ss i = true := by
  unfold can
  rw [List.mem_append]
  constructor
  · rintro (h | h)
    · obtain ⟨j, hj, e⟩ := List.mem_map.mp h
      cases e
      obtain ⟨h1, h2⟩ := List.mem_filter.mp hj
      exact ⟨List.mem_range.mp h1, h2⟩
    · obtain ⟨q, _, e⟩ := List.mem_map.mp h
      cases e
  · rintro ⟨h1, h2⟩
    exact .inl (List.mem_map.mpr ⟨i, List.mem_filter.mpr ⟨List.mem_range.mpr h1, h2⟩, rfl⟩)
theorem can_come {P : PG} {sd : SD} {y x : Nat} (h : .come y x ∈ can P sd) : ∃ l, ((y, x), l) ∈ P.ws.zip sd.ls ∧ 0 < l.length := by
  unfold can at h
  rcases List.mem_append.mp h with h | h
  · obtain ⟨j, _, e⟩ := List.mem_map.mp h
    cases e
  · obtain ⟨q, hq, e⟩ := List.mem_map.mp h
    obtain ⟨h1, h2⟩ := List.mem_filter.mp hq
    obtain ⟨⟨a, b⟩, l⟩ := q
    cases e
    exact ⟨l, h1, of_decide_eq_true h2⟩
theorem behind_ok {P : PG} {k : Nat} {sd : SD} {s : Step} (hP : PGOk P) (h : SDOk P k sd) (hs : s ∈ can P sd) : SDOk P (k + 1) (behind P sd s) := by
  cases s with
  | act i =>
    obtain ⟨h1, h2⟩ := can_act.mp hs
    exact actOn_ok hP h h1 h2
  | come y x =>
    obtain ⟨l, h1, _⟩ := can_come hs
    exact comeOn_ok hP h (List.of_mem_zip h1).1
theorem can_len {P : PG} {k : Nat} {sd : SD} (hP : PGOk P) (h : SDOk P k sd) : (can P sd).length ≤ 4 + P.ws.length := by
  unfold can
  rw [List.length_append, List.length_map, List.length_map]
  have h1 := List.length_filter_le (runs P sd.ss) (List.range P.cs.length)
  have h2 := List.length_filter_le (fun q : (Nat × Nat) × List Put => decide (0 < q.2.length)) (P.ws.zip sd.ls)
  rw [List.length_range] at h1
  rw [List.length_zip, h.lln, Nat.min_self] at h2
  have := hP.n4
  omega
/-- the key of a standing: all but the copies of the cells -/
structure MK where
  row : Nat
  regs : List Int
  kept : List Nat
  told : List Int
  diary : List Put
  fault : Bool
  deriving DecidableEq
def MS.k (m : MS) : MK := ⟨m.row, m.regs, m.kept, m.told, m.diary, m.fault⟩
def SD.k (sd : SD) : List MK × List (List Put) := (sd.ss.map MS.k, sd.ls)
theorem k_inj {P : PG} {k l : Nat} {a b : SD} (ha : SDOk P k a) (hb : SDOk P l b) (h : a.k = b.k) : a = b := by
  obtain ⟨ss, ls⟩ := a
  obtain ⟨ss', ls'⟩ := b
  unfold SD.k at h
  simp only [Prod.mk.injEq] at h
  obtain ⟨h1, rfl⟩ := h
  have hlen : ss.length = ss'.length := by
    have := congrArg List.length h1
    simpa using this
  have : ss = ss' := by
    refine List.ext_getElem? fun i => ?_
    have e := congrArg (fun l => l[i]?) h1
    simp only [List.getElem?_map] at e
    cases q : ss[i]? with
    | none =>
      cases q' : ss'[i]? with
      | none => rfl
      | some m' => rw [q, q'] at e; cases e
    | some m =>
      cases q' : ss'[i]? with
      | none => rw [q, q'] at e; cases e
      | some m' =>
        rw [q, q'] at e
        have e' : m.k = m'.k := Option.some.inj e
        have c1 := (ha.ms i m q).cells
        have c2 := (hb.ms i m' q').cells
        obtain ⟨r1, r2, r3, r4, r5, r6, r7⟩ := m
        obtain ⟨s1, s2, s3, s4, s5, s6, s7⟩ := m'
        unfold MS.k at e'
        simp only [MK.mk.injEq] at e'
        obtain ⟨rfl, rfl, rfl, rfl, rfl, rfl⟩ := e'
        simp only at c1 c2
        rw [c1, c2]
  rw [this]
end G
set_option autoImplicit false
/-! All standings that are come to, in the order in which both searches find them; ways back; outcomes. -/
namespace G
structure Bf where
  fs : List SD
  ws : List (Option (Nat × Step))
def sd0 : SD := ⟨[], []⟩
def add1 (P : PG) (i : Nat) (here : SD) (b : Bf) (s : Step) : Bf := if behind P here s ∈ b.fs then b else ⟨b.fs ++ [behind P here s], b.ws ++ [some (i, s)]⟩
def sdAt (b : Bf) (i : Nat) : SD := b.fs.getD i sd0
def expand (P : PG) (b : Bf) (i : Nat) : Bf := (can P (sdAt b i)).foldl (add1 P i (sdAt b i)) b
def bfs (P : PG) : Nat → Bf
  | 0 => ⟨[first P], [none]⟩
  | k + 1 => expand P (bfs P k) k
/-- b' goes on where b stands -/
structure Ext (b b' : Bf) : Prop where
  fs : ∃ l, b'.fs = b.fs ++ l
  ws : ∃ l, b'.ws = b.ws ++ l
theorem Ext.refl (b : Bf) : Ext b b := ⟨⟨[], (List.append_nil _).symm⟩, ⟨[], (List.append_nil _).symm⟩⟩
theorem Ext.trans {a b c : Bf} (h : Ext a b) (k : Ext b c) : Ext a c := by
  obtain ⟨⟨l1, e1⟩, l2, e2⟩ := h
  obtain ⟨⟨m1, f1⟩, m2, f2⟩ := k
  exact ⟨⟨l1 ++ m1, by rw [f1, e1, List.append_assoc]⟩, l2 ++ m2, by rw [f2, e2, List.append_assoc]⟩
theorem Ext.get {b b' : Bf} (h : Ext b b') {i : Nat} {sd : SD} (e : b.fs[i]? = some sd) : b'.fs[i]? = some sd := by
  obtain ⟨⟨l, q⟩, _⟩ := h
  rw [q, List.getElem?_append_left (List.getElem?_eq_some_iff.mp e).1]
  exact e
theorem Ext.len {b b' : Bf} (h : Ext b b') : b.fs.length ≤ b'.fs.length := by
  obtain ⟨⟨l, q⟩, _⟩ := h
  rw [q, List.length_append]
  exact Nat.le_add_right _ _
theorem Ext.at_ {b b' : Bf} (h : Ext b b') {i : Nat} (hi : i < b.fs.length) : sdAt b' i = sdAt b i := by
  unfold sdAt
  rw [List.getD_eq_getElem?_getD, List.getD_eq_getElem?_getD, h.get (List.getElem?_eq_getElem hi), List.getElem?_eq_getElem hi]
theorem add1_ext (P : PG) (i : Nat) (here : SD) (b : Bf) (s : Step) : Ext b (add1 P i here b s) := by
  unfold add1
  split
  · exact .refl b
  · exact ⟨⟨_, rfl⟩, _, rfl⟩
theorem fold_ext (P : PG) (i : Nat) (here : SD) : ∀ (l : List Step) (b : Bf), Ext b (l.foldl (add1 P i here) b)
  | [], b => .refl b
  | s :: l, b => (add1_ext P i here b s).trans (fold_ext P i here l _)
theorem expand_ext (P : PG) (b : Bf) (i : Nat) : Ext b (expand P b i) := fold_ext P i _ _ b
theorem bfs_ext (P : PG) {k l : Nat} (h : k ≤ l) : Ext (bfs P k) (bfs P l) := by
  induction h with
  | refl => exact .refl _
  | step _ ih => exact ih.trans (expand_ext P _ _)
/-- what holds of all that is found -/
structure BfOk (P : PG) (b : Bf) : Prop where
  len : b.ws.length = b.fs.length
  pos : 0 < b.fs.length
  zero : b.ws[0]? = some none
  f0 : b.fs[0]? = some (first P)
  ok : ∀ (j : Nat) (sd : SD), b.fs[j]? = some sd → SDOk P j sd
  nd : b.fs.Nodup
  way : ∀ (j : Nat) (w : Option (Nat × Step)), 0 < j → b.ws[j]? = some w → ∃ p s, w = some (p, s) ∧ p < j ∧ s ∈ can P (sdAt b p) ∧ b.fs[j]? = some (behind P (sdAt b p) s)
theorem get_snoc {α : Type} {l : List α} {a b : α} {j : Nat} (h : (l ++ [a])[j]? = some b) : l[j]? = some b ∨ j = l.length ∧ b = a := by
  by_cases e : j < l.length
  · rw [List.getElem?_append_left e] at h
    exact .inl h
  · rw [List.getElem?_append_right (by omega)] at h
    have hj : j - l.length = 0 := by
      have := (List.getElem?_eq_some_iff.mp h).1
      simp at this
      omega
    rw [hj] at h
    exact .inr ⟨by omega, (Option.some.inj h).symm⟩
theorem add1_ok {P : PG} {i : Nat} {b : Bf} {s : Step} (hP : PGOk P) (h : BfOk P b) (hi : i < b.fs.length) (hs : s ∈ can P (sdAt b i)) : BfOk P (add1 P i (sdAt b i) b s) := by
  have hx := add1_ext P i (sdAt b i) b s
  have hk : ∀ p, p < b.fs.length → sdAt (add1 P i (sdAt b i) b s) p = sdAt b p := fun p hp => hx.at_ hp
  have hf := fun (j : Nat) (sd : SD) (e : b.fs[j]? = some sd) => hx.get e
  unfold add1 at hk hf ⊢
  split
  · exact h
  · rename_i hn
    rw [if_neg hn] at hk hf
    have hget : b.fs[i]? = some (sdAt b i) := by
      unfold sdAt
      rw [List.getD_eq_getElem?_getD, List.getElem?_eq_getElem hi]
      rfl
    refine ⟨by rw [List.length_append, List.length_append, h.len]; rfl, ?_, ?_, hf 0 _ h.f0, fun j sd e => ?_, ?_, fun j w hj e => ?_⟩
    · show 0 < (b.fs ++ [_]).length
      rw [List.length_append]
      exact Nat.lt_of_lt_of_le h.pos (Nat.le_add_right _ _)
    · show (b.ws ++ [_])[0]? = some none
      rw [List.getElem?_append_left (by rw [h.len]; exact h.pos)]
      exact h.zero
    · rcases get_snoc e with q | ⟨q, rfl⟩
      · exact h.ok j sd q
      · exact (behind_ok hP (h.ok i _ hget) hs).mono (by omega)
    · show (b.fs ++ [behind P (sdAt b i) s]).Nodup
      rw [List.nodup_append]
      refine ⟨h.nd, by simp, fun x hx y hy e => ?_⟩
      rw [List.mem_singleton.mp hy] at e
      exact hn (e ▸ hx)
    · rcases get_snoc e with q | ⟨q, rfl⟩
      · obtain ⟨p, t, e1, e2, e3, e4⟩ := h.way j w hj q
        have hp : p < b.fs.length := by
          have := (List.getElem?_eq_some_iff.mp q).1
          rw [h.len] at this
          omega
        exact ⟨p, t, e1, e2, by rw [hk p hp]; exact e3, by rw [hk p hp]; exact hf j _ e4⟩
      · rw [h.len] at q
        refine ⟨i, s, rfl, by omega, by rw [hk i hi]; exact hs, ?_⟩
        rw [hk i hi, q]
        show (b.fs ++ [_])[b.fs.length]? = _
        rw [List.getElem?_append_right (Nat.le_refl _), Nat.sub_self]
        rfl
theorem fold_ok {P : PG} {i : Nat} (hP : PGOk P) (here : SD) : ∀ (l : List Step) (b : Bf), BfOk P b → i < b.fs.length → sdAt b i = here → (∀ s ∈ l, s ∈ can P here) → BfOk P (l.foldl (add1 P i here) b)
  | [], b, h, _, _, _ => h
  | s :: l, b, h, hi, e, hs => by
    subst e
    have hx := add1_ext P i (sdAt b i) b s
    have h1 := add1_ok hP h hi (hs s List.mem_cons_self)
    exact fold_ok hP _ l _ h1 (Nat.lt_of_lt_of_le hi hx.len) (hx.at_ hi) fun t ht => hs t (List.mem_cons_of_mem _ ht)
theorem expand_ok {P : PG} {b : Bf} {i : Nat} (hP : PGOk P) (h : BfOk P b) (hi : i < b.fs.length) : BfOk P (expand P b i) := fold_ok hP _ _ b h hi rfl fun _ hs => hs
theorem bfs0_ok {P : PG} (hP : PGOk P) : BfOk P (bfs P 0) := by
  refine ⟨rfl, Nat.zero_lt_one, rfl, rfl, fun j sd e => ?_, by show [first P].Nodup; simp, fun j w hj e => ?_⟩
  · have hj : j = 0 := by
      have := (List.getElem?_eq_some_iff.mp e).1
      have e2 : (bfs P 0).fs.length = 1 := rfl
      omega
    subst hj
    have e' : first P = sd := Option.some.inj e
    rw [← e']
    exact .first hP
  · have := (List.getElem?_eq_some_iff.mp e).1
    have e2 : (bfs P 0).ws.length = 1 := rfl
    omega
/-- as long as there is something to expand -/
theorem bfs_ok {P : PG} (hP : PGOk P) : ∀ k, (∀ j, j < k → j < (bfs P j).fs.length) → BfOk P (bfs P k)
  | 0, _ => bfs0_ok hP
  | k + 1, h => expand_ok hP (bfs_ok hP k fun j hj => h j (Nat.lt_succ_of_lt hj)) (h k (Nat.lt_succ_self k))
/-- all steps from i lead to what is found -/
theorem fold_mem (P : PG) (i : Nat) (here : SD) : ∀ (l : List Step) (b : Bf) (s : Step), s ∈ l → behind P here s ∈ (l.foldl (add1 P i here) b).fs
  | t :: l, b, s, h => by
    show behind P here s ∈ (l.foldl (add1 P i here) (add1 P i here b t)).fs
    rcases List.mem_cons.mp h with rfl | h
    · obtain ⟨m, q⟩ := (fold_ext P i here l (add1 P i here b s)).fs
      rw [q]
      refine List.mem_append_left _ ?_
      unfold add1
      split
      · assumption
      · exact List.mem_append_right _ (List.mem_singleton.mpr rfl)
    · exact fold_mem P i here l _ s h
theorem bfs_closed {P : PG} {K : Nat} {i : Nat} (hi : i < K) {s : Step} (hl : i < (bfs P i).fs.length) (hs : s ∈ can P (sdAt (bfs P K) i)) : behind P (sdAt (bfs P K) i) s ∈ (bfs P K).fs := by
  have e1 : sdAt (bfs P K) i = sdAt (bfs P i) i := (bfs_ext P (Nat.le_of_lt hi)).at_ hl
  rw [e1] at hs ⊢
  have h2 := fold_mem P i (sdAt (bfs P i) i) _ (bfs P i) s hs
  obtain ⟨m, q⟩ := (bfs_ext P (k := i + 1) (l := K) hi).fs
  rw [q]
  exact List.mem_append_left _ h2

/-! ### ways -/
/-- the standing behind steps -/
def lead (P : PG) : SD → List Step → Option SD
  | sd, [] => some sd
  | sd, s :: l => if s ∈ can P sd then lead P (behind P sd s) l else none
theorem lead_snoc (P : PG) : ∀ (l : List Step) (sd here : SD) (s : Step), lead P sd l = some here → s ∈ can P here → lead P sd (l ++ [s]) = some (behind P here s)
  | [], sd, here, s, h, hs => by
    cases h
    show (if s ∈ can P sd then lead P (behind P sd s) [] else none) = _
    rw [if_pos hs]
    rfl
  | t :: l, sd, here, s, h, hs => by
    unfold lead at h
    show (if t ∈ can P sd then lead P (behind P sd t) (l ++ [s]) else none) = _
    split at h
    · rename_i c
      rw [if_pos c]
      exact lead_snoc P l _ here s h hs
    · cases h
def back (ws : List (Option (Nat × Step))) : Nat → Nat → List Step
  | 0, _ => []
  | f + 1, n => match ws.getD n none with
    | none => []
    | some (p, s) => s :: back ws f p
/-- the steps to the n-th -/
def pathTo (b : Bf) (n : Nat) : List Step := (back b.ws (n + 1) n).reverse
theorem back_fuel {P : PG} {b : Bf} (h : BfOk P b) : ∀ (f g n : Nat), n < b.fs.length → n < f → n < g → back b.ws f n = back b.ws g n
  | 0, _, n, _, hf, _ => absurd hf (Nat.not_lt_zero _)
  | _, 0, n, _, _, hg => absurd hg (Nat.not_lt_zero _)
  | f + 1, g + 1, n, hn, hf, hg => by
    unfold back
    have hw : b.ws[n]? = some (b.ws.getD n none) := by
      rw [List.getD_eq_getElem?_getD, List.getElem?_eq_getElem (by rw [h.len]; exact hn)]
      rfl
    rcases e : b.ws.getD n none with _ | ⟨p, s⟩
    · rfl
    · rw [e] at hw
      have hpos : 0 < n := by
        rcases Nat.eq_zero_or_pos n with z | z
        · subst z; rw [h.zero] at hw; cases hw
        · exact z
      obtain ⟨p', s', e1, e2, _⟩ := h.way n _ hpos hw
      cases e1
      show s :: back b.ws f p = s :: back b.ws g p
      rw [back_fuel h f g p (by omega) (by omega) (by omega)]
theorem back_way {P : PG} {b : Bf} (h : BfOk P b) {n p : Nat} {s : Step} (hn : n < b.fs.length) (e : b.ws[n]? = some (some (p, s))) : p < n ∧ pathTo b n = pathTo b p ++ [s] ∧ s ∈ can P (sdAt b p) ∧ sdAt b n = behind P (sdAt b p) s := by
  have hpos : 0 < n := by
    rcases Nat.eq_zero_or_pos n with z | z
    · subst z; rw [h.zero] at e; cases e
    · exact z
  obtain ⟨p', s', e1, e2, e3, e4⟩ := h.way n _ hpos e
  cases e1
  refine ⟨e2, ?_, e3, ?_⟩
  · unfold pathTo
    have q : back b.ws (n + 1) n = s :: back b.ws n p := by
      show (match b.ws.getD n none with | none => [] | some (p, s) => s :: back b.ws n p) = _
      rw [List.getD_eq_getElem?_getD, e]
      rfl
    rw [q, List.reverse_cons, back_fuel h n (p + 1) p (by omega) e2 (by omega)]
  · unfold sdAt
    rw [List.getD_eq_getElem?_getD, e4]
    rfl
theorem back_end {b : Bf} {n : Nat} (e : b.ws[n]? = some none) : pathTo b n = [] := by
  unfold pathTo
  have q : back b.ws (n + 1) n = [] := by
    show (match b.ws.getD n none with | none => [] | some (p, s) => s :: back b.ws n p) = _
    rw [List.getD_eq_getElem?_getD, e]
    rfl
  rw [q]
  rfl
theorem lead_path {P : PG} {b : Bf} (h : BfOk P b) : ∀ n, n < b.fs.length → lead P (first P) (pathTo b n) = some (sdAt b n) ∧ (pathTo b n).length ≤ n := by
  intro n
  induction n using Nat.strongRecOn with
  | ind n ih =>
    intro hn
    rcases Nat.eq_zero_or_pos n with z | z
    · subst z
      rw [back_end h.zero]
      refine ⟨?_, Nat.le_refl _⟩
      unfold sdAt
      rw [List.getD_eq_getElem?_getD, h.f0]
      rfl
    · obtain ⟨p, s, e1, e2, _, _⟩ := h.way n (b.ws[n]'(by rw [h.len]; exact hn)) z (List.getElem?_eq_getElem _)
      obtain ⟨h1, h2, h3, h4⟩ := back_way h (n := n) (p := p) (s := s) hn (by rw [List.getElem?_eq_getElem (by rw [h.len]; exact hn), e1])
      obtain ⟨i1, i2⟩ := ih p h1 (by omega)
      rw [h2, h4]
      exact ⟨lead_snoc P _ _ _ _ i1 h3, by rw [List.length_append, List.length_singleton]; omega⟩
/-- along a way all is in order -/
theorem lead_ok {P : PG} (hP : PGOk P) : ∀ (l : List Step) (k : Nat) (sd here : SD), SDOk P k sd → lead P sd l = some here → SDOk P (k + l.length) here
  | [], k, sd, here, h, e => by cases e; exact h
  | s :: l, k, sd, here, h, e => by
    unfold lead at e
    split at e
    · rename_i c
      have := lead_ok hP l (k + 1) _ here (behind_ok hP h c) e
      rw [List.length_cons]
      rwa [Nat.add_comm l.length 1, ← Nat.add_assoc]
    · cases e
theorem lead_take (P : PG) : ∀ (l : List Step) (sd here : SD) (i : Nat), lead P sd l = some here → i ≤ l.length → ∃ mid, lead P sd (l.take i) = some mid ∧ ∀ s, l[i]? = some s → s ∈ can P mid ∧ lead P sd (l.take (i + 1)) = some (behind P mid s)
  | [], sd, here, i, h, hi => ⟨sd, by simp [lead], fun s hs => by simp at hs⟩
  | t :: l, sd, here, 0, h, hi => by
    refine ⟨sd, rfl, fun s hs => ?_⟩
    have e : t = s := by simpa using hs
    subst e
    unfold lead at h
    split at h
    · rename_i c
      refine ⟨c, ?_⟩
      show (if t ∈ can P sd then lead P (behind P sd t) (l.take 0) else none) = _
      rw [if_pos c]
      simp [lead]
    · cases h
  | t :: l, sd, here, i + 1, h, hi => by
    unfold lead at h
    split at h
    · rename_i c
      obtain ⟨mid, h1, h2⟩ := lead_take P l _ here i h (by simpa using hi)
      refine ⟨mid, ?_, fun s hs => ?_⟩
      · show (if t ∈ can P sd then lead P (behind P sd t) (l.take i) else none) = _
        rw [if_pos c]
        exact h1
      · obtain ⟨k1, k2⟩ := h2 s (by simpa using hs)
        refine ⟨k1, ?_⟩
        show (if t ∈ can P sd then lead P (behind P sd t) (l.take (i + 1)) else none) = _
        rw [if_pos c]
        exact k2
    · cases h

/-! ### outcomes -/
abbrev Oc := List (List Int)
/-- the dict of the ends: each outcome with the first standing at which it is -/
def addE (P : PG) (acc : List (Oc × Nat)) (q : Nat × SD) : List (Oc × Nat) := if ended P q.2 = true then if outc q.2 ∈ acc.map (·.1) then acc else acc ++ [(outc q.2, q.1)] else acc
def endsD (P : PG) (l : List (Nat × SD)) : List (Oc × Nat) := l.foldl (addE P) []
structure EndsOk (P : PG) (l : List (Nat × SD)) (acc : List (Oc × Nat)) : Prop where
  nd : (acc.map (·.1)).Nodup
  mem : ∀ o, o ∈ acc.map (·.1) ↔ ∃ q ∈ l, ended P q.2 = true ∧ outc q.2 = o
  at_ : ∀ e ∈ acc, ∃ sd, (e.2, sd) ∈ l ∧ ended P sd = true ∧ outc sd = e.1
theorem addE_ok {P : PG} {l : List (Nat × SD)} {acc : List (Oc × Nat)} {q : Nat × SD} (h : EndsOk P l acc) : EndsOk P (l ++ [q]) (addE P acc q) := by
  have up : ∀ e ∈ acc, ∃ sd, (e.2, sd) ∈ l ++ [q] ∧ ended P sd = true ∧ outc sd = e.1 := fun e he => let ⟨sd, h1, h2⟩ := h.at_ e he; ⟨sd, List.mem_append_left _ h1, h2⟩
  have spl : ∀ o, (∃ p ∈ l ++ [q], ended P p.2 = true ∧ outc p.2 = o) ↔ (∃ p ∈ l, ended P p.2 = true ∧ outc p.2 = o) ∨ (ended P q.2 = true ∧ outc q.2 = o) := fun o => by
    constructor
    · rintro ⟨p, hp, h1⟩
      rcases List.mem_append.mp hp with z | z
      · exact .inl ⟨p, z, h1⟩
      · rw [List.mem_singleton.mp z] at h1; exact .inr h1
    · rintro (⟨p, hp, h1⟩ | h1)
      · exact ⟨p, List.mem_append_left _ hp, h1⟩
      · exact ⟨q, List.mem_append_right _ (List.mem_singleton.mpr rfl), h1⟩
  unfold addE
  split
  · rename_i c
    split
    · rename_i m
      refine ⟨h.nd, fun o => ?_, up⟩
      rw [spl, ← h.mem]
      exact ⟨.inl, fun z => z.elim id fun y => y.2 ▸ m⟩
    · rename_i m
      refine ⟨?_, fun o => ?_, fun e he => ?_⟩
      · rw [List.map_append, List.nodup_append]
        refine ⟨h.nd, by simp, fun x hx y hy e => ?_⟩
        have : y = outc q.2 := by simpa using hy
        exact m (by rw [← this, ← e]; exact hx)
      · rw [spl, ← h.mem, List.map_append, List.mem_append]
        constructor
        · rintro (z | z)
          · exact .inl z
          · have : o = outc q.2 := by simpa using z
            exact .inr ⟨c, this.symm⟩
        · rintro (z | z)
          · exact .inl z
          · exact .inr (by simpa using z.2.symm)
      · rcases List.mem_append.mp he with z | z
        · exact up e z
        · rw [List.mem_singleton.mp z]
          exact ⟨q.2, List.mem_append_right _ (List.mem_singleton.mpr rfl), c, rfl⟩
  · rename_i c
    refine ⟨h.nd, fun o => ?_, up⟩
    rw [spl, ← h.mem]
    exact ⟨.inl, fun z => z.elim id fun y => absurd y.1 c⟩
theorem endsD_ok (P : PG) (l : List (Nat × SD)) : EndsOk P l (endsD P l) := by
  have : ∀ (r l : List (Nat × SD)) (acc : List (Oc × Nat)), EndsOk P l acc → EndsOk P (l ++ r) (r.foldl (addE P) acc) := by
    intro r
    induction r with
    | nil => intro l acc h; rw [List.append_nil]; exact h
    | cons q r ih =>
      intro l acc h
      have := ih (l ++ [q]) _ (addE_ok (q := q) h)
      rw [List.append_assoc] at this
      exact this
  have h0 : EndsOk P [] [] := ⟨by simp, fun o => ⟨fun h => absurd h List.not_mem_nil, fun ⟨q, hq, _⟩ => absurd hq List.not_mem_nil⟩, fun e he => absurd he List.not_mem_nil⟩
  exact this l [] [] h0
def nums (fs : List SD) : List (Nat × SD) := (List.range fs.length).zip fs
theorem mem_nums {fs : List SD} {q : Nat × SD} : q ∈ nums fs ↔ fs[q.1]? = some q.2 := by
  unfold nums
  constructor
  · intro h
    obtain ⟨i, hi⟩ := List.mem_iff_getElem?.mp h
    obtain ⟨h1, h2⟩ := List.getElem?_zip_eq_some.mp hi
    have hl : i < fs.length := (List.getElem?_eq_some_iff.mp h2).1
    rw [List.getElem?_range hl] at h1
    rw [← Option.some.inj h1]
    exact h2
  · intro h
    have hl : q.1 < fs.length := (List.getElem?_eq_some_iff.mp h).1
    exact List.mem_iff_getElem?.mpr ⟨q.1, List.getElem?_zip_eq_some.mpr ⟨List.getElem?_range hl, h⟩⟩
/-- two strictly ascending lists of the same things are one -/
theorem sorted_uniq {α : Type} {lt : α → α → Prop} (irr : ∀ a, ¬ lt a a) (tr : ∀ a b c, lt a b → lt b c → lt a c) : ∀ {l m : List α}, l.Pairwise lt → m.Pairwise lt → (∀ a, a ∈ l ↔ a ∈ m) → l = m
  | [], [], _, _, _ => rfl
  | [], b :: m, _, _, h => absurd ((h b).mpr List.mem_cons_self) List.not_mem_nil
  | a :: l, [], _, _, h => absurd ((h a).mp List.mem_cons_self) List.not_mem_nil
  | a :: l, b :: m, hl, hm, h => by
    obtain ⟨l1, l2⟩ := List.pairwise_cons.mp hl
    obtain ⟨m1, m2⟩ := List.pairwise_cons.mp hm
    have e : a = b := by
      rcases List.mem_cons.mp ((h a).mp List.mem_cons_self) with z | z
      · exact z
      · rcases List.mem_cons.mp ((h b).mpr List.mem_cons_self) with y | y
        · exact y.symm
        · exact absurd (tr _ _ _ (m1 a z) (l1 b y)) (irr b)
    subst e
    refine congrArg (a :: ·) (sorted_uniq irr tr l2 m2 fun c => ⟨fun hc => ?_, fun hc => ?_⟩)
    · rcases List.mem_cons.mp ((h c).mp (List.mem_cons_of_mem _ hc)) with z | z
      · subst z; exact absurd (l1 c hc) (irr c)
      · exact z
    · rcases List.mem_cons.mp ((h c).mpr (List.mem_cons_of_mem _ hc)) with z | z
      · subst z; exact absurd (m1 c hc) (irr c)
      · exact z
end G
set_option Elab.async false
set_option linter.all false
set_option maxRecDepth 100000
set_option maxHeartbeats 4000000
/-! The mirror's data as nested tuples. -/
namespace G
open PySem L2
open Enc (enc)

instance : Enc Bool where
  enc b := .bl b
  eqv a b := by
    simp only [T.data, PyData.eqv]
    exact PySem.W.beq_decide a b
  lay _ := rfl
  dep := 0
  dep_le _ := Nat.le_refl _
def putT4 (p : Put) : T := .tup [enc p.w, enc p.n, enc p.c, enc p.x]
instance : Enc Put where
  enc := putT4
  eqv a b := by
    obtain ⟨a1, a2, a3, a4⟩ := a
    obtain ⟨b1, b2, b3, b4⟩ := b
    simp only [putT4, T.data, T.datas, PyData.eqv, PyData.eqvAll, Enc.eqv, Bool.and_true]
    rw [← Bool.decide_and, ← Bool.decide_and, ← Bool.decide_and]
    exact decide_eq_decide.mpr (by simp only [Put.mk.injEq])
  lay p := by simp only [putT4, T.data, T.datas, PyData.canLay0, PyData.canLayAll0, Enc.lay, Bool.and_self]
  dep := 1
  dep_le p := by
    have h1 : (enc p.w).data.depth ≤ 0 := Enc.dep_le p.w
    have h2 : (enc p.n).data.depth ≤ 0 := Enc.dep_le p.n
    have h3 : (enc p.c).data.depth ≤ 0 := Enc.dep_le p.c
    have h4 : (enc p.x).data.depth ≤ 0 := Enc.dep_le p.x
    simp only [putT4, T.data, T.datas, PyData.depth, PyData.depthAll]
    omega
def msT (m : MS) : T := .tup [enc m.row, enc m.regs, enc m.kept, enc m.told, enc m.cells, enc m.diary, enc m.fault]
instance : Enc MS where
  enc := msT
  eqv a b := by
    obtain ⟨a1, a2, a3, a4, a5, a6, a7⟩ := a
    obtain ⟨b1, b2, b3, b4, b5, b6, b7⟩ := b
    simp only [msT, T.data, T.datas, PyData.eqv, PyData.eqvAll, Enc.eqv, Bool.and_true]
    simp only [← Bool.decide_and]
    exact decide_eq_decide.mpr (by simp only [MS.mk.injEq])
  lay m := by simp only [msT, T.data, T.datas, PyData.canLay0, PyData.canLayAll0, Enc.lay, Bool.and_self]
  dep := 3
  dep_le m := by
    have h1 : (enc m.row).data.depth ≤ 0 := Enc.dep_le m.row
    have h2 : (enc m.regs).data.depth ≤ 1 := Enc.dep_le m.regs
    have h3 : (enc m.kept).data.depth ≤ 1 := Enc.dep_le m.kept
    have h4 : (enc m.told).data.depth ≤ 1 := Enc.dep_le m.told
    have h5 : (enc m.cells).data.depth ≤ 1 := Enc.dep_le m.cells
    have h6 : (enc m.diary).data.depth ≤ 2 := Enc.dep_le m.diary
    have h7 : (enc m.fault).data.depth ≤ 0 := Enc.dep_le m.fault
    simp only [msT, T.data, T.datas, PyData.depth, PyData.depthAll] at *
    omega
def mkT (m : MK) : T := .tup [enc m.row, enc m.regs, enc m.kept, enc m.told, enc m.diary, enc m.fault]
instance : Enc MK where
  enc := mkT
  eqv a b := by
    obtain ⟨a1, a2, a3, a4, a6, a7⟩ := a
    obtain ⟨b1, b2, b3, b4, b6, b7⟩ := b
    simp only [mkT, T.data, T.datas, PyData.eqv, PyData.eqvAll, Enc.eqv, Bool.and_true]
    simp only [← Bool.decide_and]
    exact decide_eq_decide.mpr (by simp only [MK.mk.injEq])
  lay m := by simp only [mkT, T.data, T.datas, PyData.canLay0, PyData.canLayAll0, Enc.lay, Bool.and_self]
  dep := 3
  dep_le m := by
    have h1 : (enc m.row).data.depth ≤ 0 := Enc.dep_le m.row
    have h2 : (enc m.regs).data.depth ≤ 1 := Enc.dep_le m.regs
    have h3 : (enc m.kept).data.depth ≤ 1 := Enc.dep_le m.kept
    have h4 : (enc m.told).data.depth ≤ 1 := Enc.dep_le m.told
    have h6 : (enc m.diary).data.depth ≤ 2 := Enc.dep_le m.diary
    have h7 : (enc m.fault).data.depth ≤ 0 := Enc.dep_le m.fault
    simp only [mkT, T.data, T.datas, PyData.depth, PyData.depthAll] at *
    omega
def sdT (sd : SD) : T := .tup [enc sd.ss, enc sd.ls]
instance : Enc SD where
  enc := sdT
  eqv a b := by
    obtain ⟨a1, a2⟩ := a
    obtain ⟨b1, b2⟩ := b
    simp only [sdT, T.data, T.datas, PyData.eqv, PyData.eqvAll, Enc.eqv, Bool.and_true]
    simp only [← Bool.decide_and]
    exact decide_eq_decide.mpr (by simp only [SD.mk.injEq])
  lay m := by simp only [sdT, T.data, T.datas, PyData.canLay0, PyData.canLayAll0, Enc.lay, Bool.and_self]
  dep := 5
  dep_le m := by
    have h1 : (enc m.ss).data.depth ≤ 4 := Enc.dep_le m.ss
    have h2 : (enc m.ls).data.depth ≤ 3 := Enc.dep_le m.ls
    simp only [sdT, T.data, T.datas, PyData.depth, PyData.depthAll] at *
    omega
def stepT : Step → T
  | .act i => .tup [.str "do", .int i]
  | .come y x => .tup [.str "come", .int y, .int x]
instance : Enc Step where
  enc := stepT
  eqv a b := by
    have n1 : ((("do" : Str) == ("come" : Str)) = false) := by decide +kernel
    have n2 : ((("come" : Str) == ("do" : Str)) = false) := by decide +kernel
    have e : ∀ a b : Nat, (((a : Int) == (b : Int)) = decide (a = b)) := fun a b => Enc.eqv a b
    cases a with
    | act i =>
      cases b with
      | act j =>
        simp only [stepT, T.data, T.datas, PyData.eqv, PyData.eqvAll, Bool.and_true, beq_self_eq_true, Bool.true_and, e]
        exact decide_eq_decide.mpr (by simp only [Step.act.injEq])
      | come y x =>
        simp only [stepT, T.data, T.datas, PyData.eqv, PyData.eqvAll, n1, Bool.false_and]
        exact (decide_eq_false (by simp)).symm
    | come y x =>
      cases b with
      | act j =>
        simp only [stepT, T.data, T.datas, PyData.eqv, PyData.eqvAll, n2, Bool.false_and]
        exact (decide_eq_false (by simp)).symm
      | come y' x' =>
        simp only [stepT, T.data, T.datas, PyData.eqv, PyData.eqvAll, Bool.and_true, beq_self_eq_true, Bool.true_and, e]
        rw [← Bool.decide_and]
        exact decide_eq_decide.mpr (by simp only [Step.come.injEq])
  lay a := by
    cases a with
    | act i =>
      simp only [stepT, T.data, T.datas, PyData.canLay0, PyData.canLayAll0, Bool.and_true]
      decide +kernel
    | come y x =>
      simp only [stepT, T.data, T.datas, PyData.canLay0, PyData.canLayAll0, Bool.and_true]
      decide +kernel
  dep := 1
  dep_le a := by
    cases a <;> simp [stepT, T.data, T.datas, PyData.depth, PyData.depthAll]
def rowT : Row → T
  | .set r n => .tup [.str "set", .int r, .int n]
  | .copy r s => .tup [.str "copy", .int r, .int s]
  | .add r s t => .tup [.str "add", .int r, .int s, .int t]
  | .take r s t => .tup [.str "take", .int r, .int s, .int t]
  | .put c r => .tup [.str "put", .int c, .int r]
  | .look r c => .tup [.str "look", .int r, .int c]
  | .tell r => .tup [.str "tell", .int r]
  | .rest => .tup [.str "rest"]
  | .same r s to => .tup [.str "same", .int r, .int s, .int to]
  | .less r s to => .tup [.str "less", .int r, .int s, .int to]
  | .go to => .tup [.str "go", .int to]
  | .call to => .tup [.str "call", .int to]
  | .back => .tup [.str "back"]
theorem row_shaped (r : Row) : SeqAt.shaped (rowT r).data = true := by
  have k1 : PyData.canLay0 (.str "set") = true := by decide +kernel
  have k2 : PyData.canLay0 (.str "copy") = true := by decide +kernel
  have k3 : PyData.canLay0 (.str "add") = true := by decide +kernel
  have k4 : PyData.canLay0 (.str "take") = true := by decide +kernel
  have k5 : PyData.canLay0 (.str "put") = true := by decide +kernel
  have k6 : PyData.canLay0 (.str "look") = true := by decide +kernel
  have k7 : PyData.canLay0 (.str "tell") = true := by decide +kernel
  have k8 : PyData.canLay0 (.str "rest") = true := by decide +kernel
  have k9 : PyData.canLay0 (.str "same") = true := by decide +kernel
  have k10 : PyData.canLay0 (.str "less") = true := by decide +kernel
  have k11 : PyData.canLay0 (.str "go") = true := by decide +kernel
  have k12 : PyData.canLay0 (.str "call") = true := by decide +kernel
  have k13 : PyData.canLay0 (.str "back") = true := by decide +kernel
  have i1 : ∀ i : Int, PyData.canLay0 (.int i) = true := fun _ => rfl
  unfold SeqAt.shaped
  cases r <;> simp only [rowT, T.data, T.datas] <;> simp only [PyData.canLay0, PyData.canLayAll0] at * <;> simp only [PyData.depth, PyData.depthAll, *, Bool.and_true, Bool.true_and] <;> rfl
/-- code[..] == ("rest",) -/
theorem rest_eqv (r : Row) : PyData.eqv (rowT r).data (rowT .rest).data = decide (r = .rest) := by
  have n : ∀ x y : Str, x ≠ y → (x == y) = false := fun x y h => beq_eq_false_iff_ne.mpr h
  cases r <;> simp only [rowT, T.data, T.datas, PyData.eqv, PyData.eqvAll, beq_self_eq_true, Bool.and_self, Bool.true_and] <;>
    first
      | rfl
      | (rw [n _ _ (by decide +kernel), Bool.false_and]; exact (decide_eq_false (by simp)).symm)

/-! ### nested tuples as keys of dicts -/
mutual
def T.key : T → NestedKey
  | .non => .none
  | .bl b => .num (if b = true then 1 else 0)
  | .int i => .num i
  | .str x => .text x
  | .tup ts => .tup (T.keys ts)
def T.keys : List T → List NestedKey
  | [] => []
  | t :: ts => T.key t :: T.keys ts
end
mutual
theorem key_beq : ∀ t u : T, NestedKey.beq t.key u.key = PyData.eqv t.data u.data
  | .non, .non => rfl
  | .non, .bl b => by cases b <;> rfl
  | .non, .int i => rfl
  | .non, .str x => rfl
  | .non, .tup ts => rfl
  | .bl b, .non => by cases b <;> rfl
  | .bl b, .bl c => by cases b <;> cases c <;> rfl
  | .bl b, .int i => by
    simp only [T.key, T.data, NestedKey.beq, PyData.eqv]
    rw [Bool.beq_eq_decide_eq]
  | .bl b, .str x => by cases b <;> rfl
  | .bl b, .tup ts => by cases b <;> rfl
  | .int i, .non => rfl
  | .int i, .bl b => by
    simp only [T.key, T.data, NestedKey.beq, PyData.eqv]
    rw [Bool.beq_eq_decide_eq]
  | .int i, .int j => by
    simp only [T.key, T.data, NestedKey.beq, PyData.eqv]
    rw [Bool.beq_eq_decide_eq]
  | .int i, .str x => rfl
  | .int i, .tup ts => rfl
  | .str x, .non => rfl
  | .str x, .bl b => by cases b <;> rfl
  | .str x, .int i => rfl
  | .str x, .str y => by
    simp only [T.key, T.data, NestedKey.beq, PyData.eqv]
    rw [Bool.beq_eq_decide_eq]
  | .str x, .tup ts => rfl
  | .tup ts, .non => rfl
  | .tup ts, .bl b => by cases b <;> rfl
  | .tup ts, .int i => rfl
  | .tup ts, .str x => rfl
  | .tup ts, .tup us => by
    simp only [T.key, T.data, NestedKey.beq, PyData.eqv]
    exact keys_beq ts us
theorem keys_beq : ∀ ts us : List T, NestedKey.beqAll (T.keys ts) (T.keys us) = PyData.eqvAll (T.datas ts) (T.datas us)
  | [], [] => rfl
  | [], _ :: _ => rfl
  | _ :: _, [] => rfl
  | t :: ts, u :: us => by
    simp only [T.keys, T.datas, NestedKey.beqAll, PyData.eqvAll]
    rw [key_beq t u, keys_beq ts us]
end
mutual
theorem key_dep : ∀ t : T, t.key.depth = t.data.depth
  | .non => rfl
  | .bl b => by cases b <;> rfl
  | .int i => rfl
  | .str x => rfl
  | .tup ts => by
    simp only [T.key, T.data, NestedKey.depth, PyData.depth]
    rw [keys_dep ts]
theorem keys_dep : ∀ ts : List T, NestedKey.depthAll (T.keys ts) = PyData.depthAll (T.datas ts)
  | [] => rfl
  | t :: ts => by
    simp only [T.keys, T.datas, NestedKey.depthAll, PyData.depthAll]
    rw [key_dep t, keys_dep ts]
end
theorem key_inj {α : Type} [DecidableEq α] [Enc α] {a b : α} : (enc a).key = (enc b).key ↔ a = b := by
  rw [← decide_eq_true_iff (p := (enc a).key = (enc b).key), NestedKey.decide_eq, key_beq, Enc.eqv, decide_eq_true_iff]
end G
set_option Elab.async false
set_option linter.all false
set_option maxRecDepth 100000
set_option maxHeartbeats 4000000
namespace G
open PySem PySem.Spec PyProof.Rows L2
section
variable {K : PySem.W.Frag} {Ps : Tys}
/-- whether a thing is an integer, no flag; a tuple; a text -/
def isInt : T → Bool
  | .int _ => true
  | _ => false
def isBl : T → Bool
  | .bl _ => true
  | _ => false
def isTup : T → Bool
  | .tup _ => true
  | _ => false
def isStr : T → Bool
  | .str _ => true
  | _ => false
theorem kit_int (t : T) : PySem.W.kitOne K (.type (tyName t)) (.type "int") = some (isInt t || isBl t) := by
  cases t <;> first
    | exact kit_ty (a := "NoneType") (by show _ = some false; decide +kernel)
    | exact kit_ty (a := "bool") (by first | (show _ = some true; decide +kernel) | (show _ = some false; decide +kernel))
    | exact kit_ty (a := "int") (by first | (show _ = some true; decide +kernel) | (show _ = some false; decide +kernel))
    | exact kit_ty (a := "str") (by first | (show _ = some true; decide +kernel) | (show _ = some false; decide +kernel))
    | exact kit_ty (a := "tuple") (by first | (show _ = some true; decide +kernel) | (show _ = some false; decide +kernel))
theorem kit_bool (t : T) : PySem.W.kitOne K (.type (tyName t)) (.type "bool") = some (isBl t) := by
  cases t <;> first
    | exact kit_ty (a := "NoneType") (by show _ = some false; decide +kernel)
    | exact kit_ty (a := "bool") (by first | (show _ = some true; decide +kernel) | (show _ = some false; decide +kernel))
    | exact kit_ty (a := "int") (by first | (show _ = some true; decide +kernel) | (show _ = some false; decide +kernel))
    | exact kit_ty (a := "str") (by first | (show _ = some true; decide +kernel) | (show _ = some false; decide +kernel))
    | exact kit_ty (a := "tuple") (by first | (show _ = some true; decide +kernel) | (show _ = some false; decide +kernel))
theorem kit_tuple (t : T) : PySem.W.kitOne K (.type (tyName t)) (.type "tuple") = some (isTup t) := by
  cases t <;> first
    | exact kit_ty (a := "NoneType") (by show _ = some false; decide +kernel)
    | exact kit_ty (a := "bool") (by first | (show _ = some true; decide +kernel) | (show _ = some false; decide +kernel))
    | exact kit_ty (a := "int") (by first | (show _ = some true; decide +kernel) | (show _ = some false; decide +kernel))
    | exact kit_ty (a := "str") (by first | (show _ = some true; decide +kernel) | (show _ = some false; decide +kernel))
    | exact kit_ty (a := "tuple") (by first | (show _ = some true; decide +kernel) | (show _ = some false; decide +kernel))
theorem kit_str (t : T) : PySem.W.kitOne K (.type (tyName t)) (.type "str") = some (isStr t) := by
  cases t <;> first
    | exact kit_ty (a := "NoneType") (by show _ = some false; decide +kernel)
    | exact kit_ty (a := "bool") (by first | (show _ = some true; decide +kernel) | (show _ = some false; decide +kernel))
    | exact kit_ty (a := "int") (by first | (show _ = some true; decide +kernel) | (show _ = some false; decide +kernel))
    | exact kit_ty (a := "str") (by first | (show _ = some true; decide +kernel) | (show _ = some false; decide +kernel))
    | exact kit_ty (a := "tuple") (by first | (show _ = some true; decide +kernel) | (show _ = some false; decide +kernel))
theorem tup_isi {F H : Hp} {Qs : List Ty} {v : V} (e : Same F H) (h : (TupP Qs).p F v) : TyX K H v (.type "tuple") := by
  obtain ⟨a, xs, rfl, h1, _⟩ := h
  exact .base (.tup (e _ _ h1))
theorem e_isiP {Ps : Tys} {te : TE} {Qs : List Ty} {n : String} {b : Bool} (h : EvX te Ps (TupP Qs)) (hk : PySem.W.kitOne K (.type "tuple") (.type n) = some b) : EvX (tCB (rIsi K) (tCons te (tCons (tC (.ty n)) tNil))) Ps (Dat (.bl b)) :=
  x_cb (a_cons h (a_cons x_ty a_nil)) fun F H vs e p Q q => by
    cases p with
    | cons p1 p2 =>
      cases p2 with
      | cons p2 p3 =>
        cases p3
        cases p2
        exact ⟨_, _, _, _, b, rfl, .ty n, tup_isi e p1, hk, q _ F H (.refl e) (.bl _)⟩
end
end G
set_option Elab.async false
set_option linter.all false
set_option maxRecDepth 100000
set_option maxHeartbeats 4000000
/-! Dicts whose keys are nested tuples. -/
namespace G
open PySem PySem.Spec PyProof.Rows L2
section
variable {X : Cx} {pins : List (Addr × Obj)} {σ : L2.St} {H F : Hp} {s : Shared}
mutual
theorem rt_nested (I : Inv X pins σ H s) : ∀ (t : T) (v : V) (u : Value), RT H v t → RelV v u → NestedIs s.heap t.key u
  | .non, _, _, h, r => by cases h; cases r; exact .none
  | .bl b, _, _, h, r => by
    cases h
    cases r
    exact NestedIs.bool (by cases b <;> rfl)
  | .int i, _, _, h, r => by
    cases h
    obtain ⟨t, rfl⟩ := r
    exact .int i t
  | .str x, _, _, h, r => by
    cases h
    obtain ⟨t, rfl⟩ := r
    exact .text x t
  | .tup ts, _, _, h, r => by
    cases h with
    | tup ha hs =>
      cases r
      obtain ⟨its, rv, ⟨o, ho, hc, n, hd⟩, hz⟩ := I.tuple (SqT.of ha)
      exact .tup ho hc hd (by rw [List.toList_toArray]; exact rts_nested I ts _ _ hs rv)
theorem rts_nested (I : Inv X pins σ H s) : ∀ (ts : List T) (vs : List V) (us : List Value), RTs H vs ts → Vals vs us → NestedAll s.heap (T.keys ts) us
  | [], _, _, h, r => by cases h; cases r; exact .nil
  | t :: ts, _, _, h, r => by
    cases h with
    | cons h1 h2 =>
      cases r with
      | cons r1 r2 => exact .cons (rt_nested I t _ _ h1 r1) (rts_nested I ts _ _ h2 r2)
end
/-- x is the key t, a tuple -/
def KyR (F : Hp) (x : V) (t : T) : Prop := (∃ a, x = .ref a) ∧ RT F x t ∧ t.key.depth ≤ 8
theorem KyR.up {F' : Hp} {x : V} {t : T} (e : Same F F') (h : KyR F x t) : KyR F' x t := ⟨h.1, RT.up e t x h.2.1, h.2.2⟩
theorem KyR.is {a : Addr} {t : T} (I : Inv X pins σ H s) (e : Same F H) (h : KyR F (.ref a) t) : (nestedKind X.prog X.w).is s.heap t.key a := ⟨rt_nested I t _ _ (RT.up e t _ h.2.1) rfl, h.2.2⟩
abbrev Ents := List (NestedKey × Addr × Value)
/-- the dict with these entries -/
def DctO (P : Program) (w : World) (d : Addr) (xs : Ents) : HO := .ext fun h => (∃ o es ep, h.get? d = some o ∧ o.ExactDict ∧ o.data = .dict es ep ∧ es.toList = xs.map (entryOfKey (nestedKind P w)) ∧ (xs.map (·.1)).Nodup) ∧ (d == sysModules) = false ∧ xs.length ≤ 100000
def KeysOk (F : Hp) (xs : Ents) : Prop := ∀ z ∈ xs, ∃ t : T, z.1 = t.key ∧ KyR F (.ref z.2.1) t
theorem KeysOk.up {F' : Hp} {xs : Ents} (e : Same F F') (h : KeysOk F xs) : KeysOk F' xs := fun z hz => let ⟨t, h1, h2⟩ := h z hz; ⟨t, h1, h2.up e⟩
theorem dct_ok {h : Heap} {d : Addr} {xs : Ents} {P : Program} {w : World} {H' : Hp} (h1 : ∃ o es ep, h.get? d = some o ∧ o.ExactDict ∧ o.data = .dict es ep ∧ es.toList = xs.map (entryOfKey (nestedKind P w)) ∧ (xs.map (·.1)).Nodup)
    (h2 : (d == sysModules) = false) (h3 : xs.length ≤ 100000) : ObjOk P w H' h d (DctO P w d xs) := by
  refine ⟨⟨h1, h2, h3⟩, ?_, fun k1 k2 ⟨⟨o, es, ep, a, b⟩, c⟩ k => ⟨⟨o, es, ep, k o a, b⟩, c⟩⟩
  obtain ⟨o, es, ep, a, _⟩ := h1
  exact ⟨o, a⟩
theorem dct_at {d : Addr} {xs : Ents} (I : Inv X pins σ H s) (e : Same F H) (hd : H d = some (DctO X.prog X.w d xs)) (k : KeysOk F xs) : s.heap.DictOfH (nestedKind X.prog X.w) d xs ∧ (d == sysModules) = false ∧ xs.length ≤ 100000 := by
  obtain ⟨⟨⟨o, es, ep, h1, h2, h3, h4, h5⟩, h6, h7⟩, _⟩ := (show ObjOk X.prog X.w H s.heap d (DctO X.prog X.w d xs) from I.hok d _ hd)
  refine ⟨⟨o, es, ep, h1, h2, h3, h4, fun z hz => ?_, h5⟩, h6, h7⟩
  obtain ⟨t, e1, e2⟩ := k z hz
  rw [e1]
  exact e2.is I e
theorem dct_put {d : Addr} {xs ys : Ents} {h' : Heap} {t' : Nat} (I : Inv X pins σ H s) (hd : H d = some (DctO X.prog X.w d xs)) (hs : Heap.SameBut d s.heap h') (hn : h'.DictOfH (nestedKind X.prog X.w) d ys) (hl : ys.length ≤ 100000) (h6 : (d == sysModules) = false) :
    Inv X pins σ (upd H d (DctO X.prog X.w d ys)) { s with heap := h', toks := t' } := by
  obtain ⟨o, es, ep, h1, h2, h3, h4, _, h5⟩ := hn
  exact d_write I (by rw [hd]; exact True.intro) hs ⟨o, h1⟩ (dct_ok ⟨o, es, ep, h1, h2, h3, h4, h5⟩ h6 hl)
theorem at_some {xs : Ents} {k : NestedKey} : (atKey xs k).isSome = decide (k ∈ xs.map (·.1)) := by
  induction xs with
  | nil => rfl
  | cons x xs ih =>
    by_cases h : x.1 = k
    · subst h; simp [atKey]
    · have h' : ¬ k = x.1 := fun z => h z.symm
      have e : atKey (x :: xs) k = atKey xs k := by unfold atKey; rw [List.find?_cons, decide_eq_false h]
      rw [e, ih, List.map_cons]
      exact decide_eq_decide.mpr ⟨fun z => List.mem_cons_of_mem _ z, fun z => (List.mem_cons.mp z).resolve_left h'⟩
theorem at_none {xs : Ents} {k : NestedKey} (h : k ∉ xs.map (·.1)) : atKey xs k = none := by
  have := at_some (xs := xs) (k := k)
  rw [decide_eq_false h] at this
  exact Option.not_isSome_iff_eq_none.mp (by rw [this]; exact Bool.false_ne_true)
/-! the rules -/
def rInN (P : Program) (w : World) : R2 := fun x y H Q => ∃ F d xs t, Same F H ∧ y = .ref d ∧ H d = some (DctO P w d xs) ∧ KeysOk F xs ∧ KyR F x t ∧ Q (.bl (decide (t.key ∈ xs.map (·.1)))) H
def rNinN (P : Program) (w : World) : R2 := fun x y H Q => ∃ F d xs t, Same F H ∧ y = .ref d ∧ H d = some (DctO P w d xs) ∧ KeysOk F xs ∧ KyR F x t ∧ Q (.bl (!decide (t.key ∈ xs.map (·.1)))) H
theorem room8 {A : Around} (hu : A.units + 65 < cLine) : A.in1.units + 8 < cLine := by show A.units + 1 + 8 < cLine; omega
theorem oInN (hu : X.A.units + 65 < cLine) : OpR X (compareOp .In) (rInN X.prog X.w) := by
  intro pins s σ H x y v u Q I rx ry h
  obtain ⟨F, d, xs, t, e, rfl, hd, hk, ht, q⟩ := h
  obtain ⟨⟨a, rfl⟩, _⟩ := id ht
  cases rx
  cases ry
  obtain ⟨hm, h6, _⟩ := dct_at I e hd hk
  refine wpAny_in_heap (knd := nestedKind X.prog X.w) (room8 hu) (ht.is I e) h6 hm ⟨.bl _, H, I.tok _, rfl, ?_⟩
  rw [at_some]
  exact q
theorem oNinN (hu : X.A.units + 65 < cLine) : OpR X (compareOp .NotIn) (rNinN X.prog X.w) := by
  intro pins s σ H x y v u Q I rx ry h
  obtain ⟨F, d, xs, t, e, rfl, hd, hk, ht, q⟩ := h
  obtain ⟨⟨a, rfl⟩, _⟩ := id ht
  cases rx
  cases ry
  obtain ⟨hm, h6, _⟩ := dct_at I e hd hk
  show wpAny _ _ (do let b ← contains (Value.ref d) (Value.ref a); pure (Value.bool (!b))) _ _ s
  refine wpAny_bind (wpAny_contains_heap (knd := nestedKind X.prog X.w) (room8 hu) (ht.is I e) h6 hm (wpAny_pure ⟨.bl _, H, I.tok _, rfl, ?_⟩))
  rw [at_some]
  exact q
def rGetN (P : Program) (w : World) : R2 := fun x y H Q => ∃ F d xs t a u v, Same F H ∧ x = .ref d ∧ H d = some (DctO P w d xs) ∧ KeysOk F xs ∧ KyR F y t ∧ atKey xs t.key = some (a, u) ∧ RelV v u ∧ Q v H
theorem ix_dictN (hu : X.A.units + 65 < cLine) : IxR X (rGetN X.prog X.w) := by
  intro value slice pins s σ H x y v u Q I rx ry h hs
  obtain ⟨F, d, xs, t, b, u0, r, e, rfl, hd, hk, ht, hat, rr, q⟩ := h
  obtain ⟨⟨a, rfl⟩, _⟩ := id ht
  cases rx
  cases ry
  obtain ⟨hm, h6, _⟩ := dct_at I e hd hk
  exact tail_any hm.typeIs PySem.F.slot_dict_getitem.lookup (wpAny_getItem_heap (knd := nestedKind X.prog X.w) (room8 hu) (ht.is I e) hm hat ⟨r, H, I.tok _, rr, q⟩) hs
def rSetN (P : Program) (w : World) : V → V → V → Hp → (Hp → Prop) → Prop := fun o i v H Q => ∃ F d xs t a, Same F H ∧ o = .ref d ∧ H d = some (DctO P w d xs) ∧ KeysOk F xs ∧ i = .ref a ∧ KyR F i t ∧ t.key ∉ xs.map (·.1) ∧ xs.length < 100000 ∧
  ∀ u, RelV v u → Q (upd H d (DctO P w d (xs ++ [(t.key, a, u)])))
theorem big2 {n : Nat} (h : n ≤ 1000000) : n ≤ sizeLine := by rw [sizeLine_eq]; omega
theorem set_dictN (hu : X.A.units + 65 < cLine) : PSet X (rSetN X.prog X.w) := by
  intro pins s σ H o i v ov iv u Q I ro ri rv h
  obtain ⟨F, d, xs, t, a, e, rfl, hd, hk, rfl, ht, hn, hl, q⟩ := h
  cases ro
  cases ri
  obtain ⟨hm, h6, h7⟩ := dct_at I e hd hk
  refine wpAny_setItem_heap (knd := nestedKind X.prog X.w) (hsz := big2 (by omega)) (room8 hu) (ht.is I e) hm fun h' hm' hs => ?_
  rw [storedH_new (at_none hn)] at hm'
  exact ⟨_, dct_put I hd hs hm' (by rw [List.length_append, List.length_singleton]; omega) h6, q u rv⟩
/-- d.setdefault(k, x) -/
def rSetdN (P : Program) (w : World) : V → List V → Hp → VK → Prop := fun o vs H Q => ∃ F d xs t a v, Same F H ∧ o = .ref d ∧ H d = some (DctO P w d xs) ∧ KeysOk F xs ∧ vs = [.ref a, v] ∧ KyR F (.ref a) t ∧ xs.length < 100000 ∧
  (∀ b u, atKey xs t.key = some (b, u) → ∃ r, RelV r u ∧ Q r H) ∧ (t.key ∉ xs.map (·.1) → ∀ u, RelV v u → Q v (upd H d (DctO P w d (xs ++ [(t.key, a, u)]))))
theorem at_mem {xs : Ents} {k : NestedKey} {p : Addr × Value} (h : atKey xs k = some p) : (k, p) ∈ xs := by
  unfold atKey at h
  obtain ⟨x, hx, rfl⟩ := Option.map_eq_some_iff.mp h
  have h1 := List.find?_some hx
  have h2 := List.mem_of_find?_eq_some hx
  have e : x.1 = k := of_decide_eq_true h1
  rw [← e]
  exact h2
def tSetdN (P : Program) (w : World) (to : TE) (tl : TA) : TE := fun σ H Q => to σ H fun x H1 => (∃ d xs, x = .ref d ∧ H1 d = some (DctO P w d xs)) ∧ tl σ H1 fun vs H2 => rSetdN P w x vs H2 Q
theorem pe_setdN {o e : Expr} {es : List Expr} {to : TE} {t : TA} {apos cpos : Pos} (hu : X.A.units + 65 < cLine) (ho : PE X o to) (ha : PA X (e :: es) t)
    (hbase : attributeBase o "setdefault" X.env (eval o X.env) = eval o X.env := by rfl)
    (hfew : ((backTo cpos (starEach (e :: es) X.env)).all (fun x => !x.1) && (backToKw cpos (keywordEach [] X.env)).all (fun x => x.1.isSome)
      && decide ((e :: es).length + ([] : List Keyword).length + (if ([] : List Keyword).isEmpty then 0 else 1) < 30)) = true := by rfl)
    (hline : (apos.endLine == cpos.line) = true := by rfl) (hs : starEach (e :: es) X.env = (false, eval e X.env) :: starEach es X.env := by rfl) (hplain : (backTo cpos (starEach es X.env)).any (·.1) = false := by rfl) :
    PE X (.Call (.Attribute o "setdefault" apos) (e :: es) [] cpos) (tSetdN X.prog X.w to t) := by
  refine ⟨fun pins s σ H Q I h => ?_⟩
  refine wpAny_Call_method_late hbase hfew hline rfl (thn (ho.run pins s σ H _ I h) fun v s1 ⟨x, H1, I1, r1, ⟨d, xs, ex, hd⟩, q1⟩ => ?_)
  subst ex
  obtain rfl : v = Value.ref d := r1
  obtain ⟨⟨⟨ob, es', ep, h1, h2, h3, h4, h5⟩, h6, h7⟩, _⟩ := (show ObjOk X.prog X.w H1 s1.heap d (DctO X.prog X.w d xs) from I1.hok d _ hd)
  refine ⟨"dict", "dict.setdefault", PySem.F.plainAttrs_dict, PySem.F.slot_dict_setdefault, PySem.F.type_dict_setdefault, ⟨ob, h1, h2.1⟩, fun b q => by cases q; exact ⟨ob, h1, h2.2.1⟩, ?_⟩
  have hA := ha.run cpos pins s1 σ H1 _ I1 q1
  rw [hs] at hA ⊢
  refine Calls.callWith_builtin (by show (false || (backTo cpos (starEach es X.env)).any (·.1)) = false; rw [hplain] <;> rfl) (Calls.evalArgs_plain ?_)
  refine thn hA fun us s2 ⟨vs, H2, I2, r2, F, d2, ys, t, a, v0, e, ex, hd2, hk, evs, ht, hl, k1, k2⟩ => ?_
  cases ex
  subst evs
  cases r2 with
  | cons ra r2 =>
    cases r2 with
    | cons rv r3 =>
      cases r3
      cases ra
      obtain ⟨hm, hs6, _⟩ := dct_at I2 e hd2 hk
      refine call_setdefault_heap (knd := nestedKind X.prog X.w) (hsz := big2 (by omega)) (room8 hu) (ht.is I2 e) hs6 hm (fun p hp => ?_) fun hn h' hm' hsb => ?_
      · obtain ⟨r, rr, q⟩ := k1 p.1 p.2 hp
        exact ⟨r, H2, I2.tok _, rr, q⟩
      · have hn' : t.key ∉ ys.map (·.1) := fun z => by
          have := at_some (xs := ys) (k := t.key)
          rw [hn, decide_eq_true z] at this
          cases this
        rw [storedH_new hn] at hm'
        exact ⟨_, _, dct_put I2 hd2 hsb hm' (by rw [List.length_append, List.length_singleton]; omega) hs6, rv, k2 hn' _ rv⟩
end
end G
set_option Elab.async false
set_option linter.all false
set_option maxRecDepth 100000
set_option maxHeartbeats 4000000
namespace G
open PySem PySem.Spec PyProof.Rows L2
open Enc (enc)
section
variable {X : Cx} {pos : Pos}
/-- {} -/
def tDNewN (P : Program) (w : World) : TE := fun _ H Q => ∀ p, H p = none → Q (.ref p) (upd H p (DctO P w p []))
theorem dct_empty {P : Program} {w : World} {H : Hp} (h : Heap) (hb : sysModules < h.objs.size) : ObjOk P w H (h.push { cls := .type "dict", data := .dict #[] }) h.objs.size (DctO P w h.objs.size []) :=
  dct_ok ⟨_, #[], 0, Heap.get?_push_size _ rfl, ⟨rfl, rfl, rfl⟩, rfl, rfl, List.nodup_nil⟩ (beq_eq_false_iff_ne.mpr (Ne.symm (Nat.ne_of_lt hb))) (Nat.zero_le _)
theorem pe_dnewN : PE X (.Dict [] [] pos) (tDNewN X.prog X.w) := ⟨fun pins s σ H Q I h =>
  wpAny_Dict_empty ⟨.ref s.heap.objs.size, _, I.laid (a := s.heap.objs.size) (o := DctO X.prog X.w s.heap.objs.size []) (t' := s.toks) (fun _ _ q => Heap.get?_push_of_some _ q) (Nat.le_refl _) (dct_empty s.heap I.big), rfl, h _ (I.hok.fresh (Nat.le_refl _))⟩⟩
/-- {k: v} -/
def tDispN (P : Program) (w : World) (tk tv : TE) : TE := fun σ H Q => ∀ p, H p = none → tk σ (upd H p (DctO P w p [])) fun x H1 => tv σ H1 fun y H2 => H2 p = some (DctO P w p []) ∧ ∃ F a t, Same F H2 ∧ x = .ref a ∧ KyR F x t ∧
  ∀ u, RelV y u → Q (.ref p) (upd H2 p (DctO P w p [(t.key, a, u)]))
theorem pe_dispN {k v : Expr} {tk tv : TE} (hu : X.A.units + 65 < cLine) (hk : PE X k tk) (hv : PE X v tv) : PE X (.Dict [some k] [v] pos) (tDispN X.prog X.w tk tv) := by
  refine ⟨fun pins s σ H Q I h => ?_⟩
  have hn := I.hok.fresh (Nat.le_refl s.heap.objs.size)
  have I1 := I.laid (a := s.heap.objs.size) (o := DctO X.prog X.w s.heap.objs.size []) (h' := s.heap.push { cls := .type "dict", data := .dict #[] }) (t' := s.toks) (fun _ _ q => Heap.get?_push_of_some _ q) (Nat.le_refl _) (dct_empty s.heap I.big)
  have P1 : PPs X pos [some k] [v] [(tk, tv)] := pps_cons hk hv pps_nil
  have h0 := h _ hn
  have hz := zip_pairTrees [some k] [v] X.env pos rfl rfl
  have hl1 : (pairTrees [some k] [v] X.env pos).length = 1 := by rw [pairTrees_length [some k] [v] X.env pos rfl rfl]; rfl
  rw [arm_eval_Dict, hz, dictDisplay_pairs (pairTrees [some k] [v] X.env pos) (fun z => by rw [z] at hl1; cases hl1) (by omega)]
  refine wpAny_bind (wpAny_standAt (wpAny_bind (wpAny_subDictH (knd := nestedKind X.prog X.w) (by show X.A.units + 8 < cLine; omega) (by omega) ?_)))
  refine thn (P1.run pins _ σ _ (fun ps H2 => match ps with
      | [(x, y)] => H2 s.heap.objs.size = some (DctO X.prog X.w s.heap.objs.size []) ∧ ∃ F a t, Same F H2 ∧ x = .ref a ∧ KyR F x t ∧ ∀ u, RelV y u → Q (.ref s.heap.objs.size) (upd H2 s.heap.objs.size (DctO X.prog X.w s.heap.objs.size [(t.key, a, u)]))
      | _ => False) I1 h0) fun ws s2 ⟨ps, H2, I2, rel, hq⟩ => ?_
  match ps, hq with
  | [(x, y)], hq =>
    obtain ⟨hd, F, a, t, eF, ex, hx, q⟩ := hq
    subst ex
    cases rel with
    | @cons _ b _ bs r1 r2 =>
      cases r2
      obtain ⟨ra, rb⟩ := r1
      obtain ⟨b1, b2⟩ := b
      obtain rfl : b1 = Value.ref a := ra
      obtain ⟨hm, h6, h7⟩ := dct_at I2 eF hd (fun z hz => by cases hz)
      refine ⟨[(t.key, a, b2)], ⟨rfl, rfl, hx.is I2 eF, trivial⟩, hm, fun h' tk' hm' hs => ?_⟩
      have e3 : storedAllH ([] : Ents) [(t.key, a, b2)] = [(t.key, a, b2)] := rfl
      rw [e3] at hm'
      exact wpAny_pure ⟨.ref s.heap.objs.size, _, dct_put I2 hd hs hm' (by show 1 ≤ _; decide) h6, rfl, q b2 rb⟩
/-- list(d) -/
def rListN (P : Program) (w : World) : List V → Hp → VK → Prop := fun xs H Q => ∃ F d es, xs = [V.ref d] ∧ Same F H ∧ H d = some (DctO P w d es) ∧ KeysOk F es ∧ ∀ p, H p = none → Q (.ref p) (upd H p (.lst (es.map fun z => .ref z.2.1)))
theorem cListN (hc : X.calm = true) : CallR X (.type "list") (rListN X.prog X.w) := by
  intro pins s σ H xs us Q I r h
  obtain ⟨F, d, es, rfl, e, hd, hk, q⟩ := h
  obtain ⟨u, rfl, rx⟩ := r.one
  cases rx
  obtain ⟨⟨o, es', ep, h1, h2, h3, h4, _, h5⟩, h6, h7⟩ := dct_at I e hd hk
  have l1 : es'.size = es.length := by rw [← Array.length_toList, h4, List.length_map]
  refine PySem.W.kdl_call (kdl_raw h6 h2 h3) (I.ok.hd hc) h1 (by rw [l1]; exact big2 (by omega)) fun h' tk acc' c' kp e2 it => ?_
  have ea : acc'.toList = (es.map fun z => z.2.1).map Value.ref := by
    refine List.ext_getElem? fun j => ?_
    by_cases hj : j < es.length
    · have hj' : j < acc'.toList.length := by rw [Array.length_toList, it.1, l1]; exact hj
      have e3 : acc'.toList[j]? = some acc'.toList[j] := List.getElem?_eq_getElem hj'
      obtain ⟨en, k1, k2⟩ := it.2 j _ (by rw [← Array.getElem?_toList]; exact e3)
      rw [← Array.getElem?_toList, h4, List.getElem?_map, List.getElem?_eq_getElem hj] at k1
      have k3 : entryOfKey (nestedKind X.prog X.w) es[j] = en := Option.some.inj k1
      rw [e3, k2, ← k3, List.getElem?_map, List.getElem?_map, List.getElem?_eq_getElem hj]
      rfl
    · rw [List.getElem?_eq_none (by rw [Array.length_toList, it.1, l1]; omega), List.getElem?_eq_none (by rw [List.length_map, List.length_map]; omega)]
  have rv : Vals (es.map fun z => V.ref z.2.1) acc'.toList := by
    rw [ea]
    have := vals_refs (es.map fun z => z.2.1)
    rw [List.map_map] at this
    exact this
  refine ⟨.ref s.heap.objs.size, _, I.laid (t' := tk) (o := .lst (es.map fun z => V.ref z.2.1)) kp (Nat.le_refl _) ?_, rfl, q _ (I.hok.fresh (Nat.le_refl _))⟩
  exact ⟨by rw [List.length_map]; exact big2 (by omega), acc'.toList, c', rv, by rw [Array.toArray_toList]; exact e2⟩
end

/-! ### dicts in the layer -/
section
variable {P : Program} {w : World} {F F' H H' : Hp}
def KR1 (F : Hp) (q : T × Ty) (x : NestedKey × Addr × Value) : Prop := x.1 = q.1.key ∧ KyR F (.ref x.2.1) q.1 ∧ ∃ v, q.2.p F v ∧ RelV v x.2.2
abbrev KR (F : Hp) (xs : Ents) (kvs : List (T × Ty)) : Prop := Paired (KR1 F) kvs xs
theorem KR.up (e : Same F F') {xs : Ents} {kvs : List (T × Ty)} (h : KR F xs kvs) : KR F' xs kvs := Paired.mapP h fun q x ⟨h1, h2, v, h3, h4⟩ => ⟨h1, h2.up e, v, q.2.up _ _ _ e h3, h4⟩
theorem KR.ok : ∀ {xs : Ents} {kvs : List (T × Ty)}, KR F xs kvs → KeysOk F xs
  | _, _, .nil => fun z hz => by cases hz
  | _, _, .cons h t => fun z hz => by
    rcases List.mem_cons.mp hz with rfl | hz
    · exact ⟨_, h.1, h.2.1⟩
    · exact KR.ok t z hz
theorem KR.keys : ∀ {xs : Ents} {kvs : List (T × Ty)}, KR F xs kvs → xs.map (·.1) = kvs.map (·.1.key)
  | _, _, .nil => rfl
  | _, _, .cons h t => by rw [List.map_cons, List.map_cons, h.1, KR.keys t]
theorem KR.len {xs : Ents} {kvs : List (T × Ty)} (h : KR F xs kvs) : kvs.length = xs.length := Paired.length h
theorem KR.snoc {q : T × Ty} {x : NestedKey × Addr × Value} (hq : KR1 F q x) : ∀ {xs : Ents} {kvs : List (T × Ty)}, KR F xs kvs → KR F (xs ++ [x]) (kvs ++ [q])
  | _, _, .nil => .cons hq .nil
  | _, _, .cons h t => .cons h (KR.snoc hq t)
/-- where the key is -/
theorem KR.find {k : NestedKey} : ∀ {xs : Ents} {kvs : List (T × Ty)}, KR F xs kvs → ∀ q ∈ kvs, q.1.key = k → ((kvs.map (·.1.key)).Nodup) → ∃ a u v, atKey xs k = some (a, u) ∧ q.2.p F v ∧ RelV v u
  | _, _, .nil, q, hq, _, _ => by cases hq
  | x :: xs, q0 :: kvs, .cons h t, q, hq, e, nd => by
    obtain ⟨h1, h2, v, h3, h4⟩ := h
    rw [List.map_cons, List.nodup_cons] at nd
    rcases List.mem_cons.mp hq with rfl | hq
    · refine ⟨x.2.1, x.2.2, v, ?_, h3, h4⟩
      unfold atKey
      rw [List.find?_cons, decide_eq_true (h1.trans e)]
      rfl
    · obtain ⟨a, u, v', k1, k2, k3⟩ := KR.find t q hq e nd.2
      refine ⟨a, u, v', ?_, k2, k3⟩
      have hne : ¬ x.1 = k := fun z => nd.1 (by
        have : q0.1.key = q.1.key := by rw [e, ← z, h1]
        rw [this]
        exact List.mem_map.mpr ⟨q, hq, rfl⟩)
      unfold atKey at k1 ⊢
      rw [List.find?_cons, decide_eq_false hne]
      exact k1
theorem KR.refs : ∀ {xs : Ents} {kvs : List (T × Ty)}, KR F xs kvs → AllP F (kvs.map fun q => Dat q.1) (xs.map fun z => .ref z.2.1)
  | _, _, .nil => .nil
  | _, _, .cons h t => .cons h.2.1.2.1 (KR.refs t)
/-- a dict -/
def DctP (P : Program) (w : World) (kvs : List (T × Ty)) : Ty := ⟨fun H v => ∃ d xs, v = .ref d ∧ H d = some (DctO P w d xs) ∧ KR H xs kvs, fun _ _ _ e ⟨d, xs, h1, h2, h3⟩ => ⟨d, xs, h1, e _ _ h2, h3.up e⟩⟩
/-- .. that grows -/
def OpD (P : Program) (w : World) (d : Addr) (F H : Hp) (kvs : List (T × Ty)) : Prop := F d = none ∧ ∃ xs, H d = some (DctO P w d xs) ∧ KR F xs kvs
theorem OpD.step {d : Addr} {kvs : List (T × Ty)} (o : OpD P w d F H kvs) (g : Gr F H F' H') : OpD P w d F' H' kvs := by
  obtain ⟨h1, xs, h2, h3⟩ := o
  exact ⟨g.nw d (by rw [h2]; exact fun q => by cases q) h1, xs, g.hh _ _ h2, h3.up g.ff⟩
theorem OpD.done {F0 H0 : Hp} {d : Addr} {kvs : List (T × Ty)} (o : OpD P w d F H kvs) (g : Gr F0 H0 F H) (h0 : H0 d = none) : ∃ F', Gr F0 H0 F' H ∧ Same F F' ∧ (DctP P w kvs).p F' (.ref d) := by
  obtain ⟨h1, xs, h2, h3⟩ := o
  exact ⟨upd F d (DctO P w d xs), g.freeze h0 h1 h2, Same.upd_new h1, d, xs, rfl, upd_same, h3.up (Same.upd_new h1)⟩
theorem OpD.now {d : Addr} {kvs : List (T × Ty)} (e : Same F H) (o : OpD P w d F H kvs) : (DctP P w kvs).p H (.ref d) := by
  obtain ⟨h1, xs, h2, h3⟩ := o
  exact ⟨d, xs, rfl, h2, h3.up e⟩
theorem OpL.now {l : Addr} {Qs : List Ty} (e : Same F H) (o : OpL l F H Qs) : (LstP Qs).p H (.ref l) := by
  obtain ⟨h1, us, h2, h3⟩ := o
  exact ⟨l, us, rfl, h2, h3.up e⟩
theorem Op.now {x C : Addr} {tfs : Flds} (e : Same F H) (o : Op x C F H tfs) : (InsP C tfs).p H (.ref x) := by
  obtain ⟨h1, dx, fs, h2, h3⟩ := o
  exact ⟨x, dx, fs, rfl, h2, h3.up e⟩
/-- a tuple that can be a key -/
structure Ky (t : T) : Prop where
  tup : ∃ ts, t = .tup ts
  dep : t.key.depth ≤ 8
theorem Ky.r {t : T} {v : V} (k : Ky t) (h : RT F v t) : KyR F v t := by
  obtain ⟨⟨ts, rfl⟩, hd⟩ := k
  refine ⟨?_, h, hd⟩
  cases h
  exact ⟨_, rfl⟩
end
section
variable {P : Program} {w : World} {Ps : Tys} {ta tb te : TE} {kvs : List (T × Ty)} {t : T} {R : Ty}
theorem e_inN (ha : EvX ta Ps (Dat t)) (hk : Ky t) (hb : EvX tb Ps (DctP P w kvs)) : EvX (tOp (rInN P w) ta tb) Ps (Dat (.bl (decide (t.key ∈ kvs.map (·.1.key))))) :=
  x_op ha hb fun F H x y e p1 ⟨d, xs, h1, h2, h3⟩ Q q => ⟨F, d, xs, t, e, h1, e _ _ h2, h3.ok, hk.r p1, by rw [h3.keys]; exact q _ F H (.refl e) (.bl _)⟩
theorem e_ninN (ha : EvX ta Ps (Dat t)) (hk : Ky t) (hb : EvX tb Ps (DctP P w kvs)) : EvX (tOp (rNinN P w) ta tb) Ps (Dat (.bl (!decide (t.key ∈ kvs.map (·.1.key))))) :=
  x_op ha hb fun F H x y e p1 ⟨d, xs, h1, h2, h3⟩ Q q => ⟨F, d, xs, t, e, h1, e _ _ h2, h3.ok, hk.r p1, by rw [h3.keys]; exact q _ F H (.refl e) (.bl _)⟩
theorem e_getN (ha : EvX ta Ps (DctP P w kvs)) (hb : EvX tb Ps (Dat t)) (hk : Ky t) (nd : (kvs.map (·.1.key)).Nodup) {q0 : T × Ty} (hq : q0 ∈ kvs) (e0 : q0.1.key = t.key) (hR : q0.2 = R) : EvX (tOp (rGetN P w) ta tb) Ps R :=
  x_op ha hb fun F H x y e ⟨d, xs, h1, h2, h3⟩ p2 Q q => by
    subst hR
    obtain ⟨a, u, v, k1, k2, k3⟩ := h3.find q0 hq e0 nd
    exact ⟨F, d, xs, t, a, u, v, e, h1, e _ _ h2, h3.ok, hk.r p2, k1, k3, q v F H (.refl e) k2⟩
theorem e_listN (ha : EvX ta Ps (DctP P w kvs)) : EvX (tCB (rListN P w) (tCons ta tNil)) Ps (LstP (kvs.map fun q => Dat q.1)) :=
  x_cb (a_cons ha a_nil) fun F H vs e p Q q => by
    cases p with
    | cons p1 p2 =>
      cases p2
      obtain ⟨d, xs, rfl, h2, h3⟩ := p1
      exact ⟨F, d, xs, rfl, e, e _ _ h2, h3.ok, fun l hl => q _ _ _ (.new e hl) ⟨l, _, rfl, upd_same, h3.refs.up (Same.upd_new (e.free hl))⟩⟩
/-- keys by a type -/
theorem mem_key {α : Type} [DecidableEq α] [Enc α] {a : α} {as : List α} : ((enc a).key ∈ as.map fun a => (enc a).key) ↔ a ∈ as := by
  constructor
  · intro h
    obtain ⟨b, hb, e⟩ := List.mem_map.mp h
    rw [← key_inj.mp e]
    exact hb
  · exact fun h => List.mem_map.mpr ⟨a, h, rfl⟩
theorem key_nd {α : Type} [DecidableEq α] [Enc α] {as : List α} (h : as.Nodup) : (as.map fun a => (enc a).key).Nodup := by
  induction as with
  | nil => exact List.nodup_nil
  | cons a as ih =>
    rw [List.nodup_cons] at h
    rw [List.map_cons, List.nodup_cons]
    exact ⟨fun z => h.1 (mem_key.mp z), ih h.2⟩
end
/-! what is evaluated now, of things that are not finished too: a number, a truth value, None -/
section
variable {te : TE} {Ps : Tys} {F0 H0 F H : Hp} {σ : L2.St} {t : T}
def Scal : T → Prop
  | .tup _ => False
  | _ => True
def T.v : T → V
  | .non => .non
  | .bl b => .bl b
  | .int i => .int i
  | .str x => .str x
  | .tup _ => .non
theorem scal_v {v : V} (hs : Scal t) (h : RT F v t) : v = t.v := by
  cases h with
  | tup _ _ => exact False.elim hs
  | non => rfl
  | bl b => rfl
  | int i => rfl
  | str x => rfl
theorem gr_now {H' : Hp} (e : Same F H) (h : Same H H') : Gr F H F H' := ⟨.refl _, h, e.trans h, fun _ _ z => z⟩
theorem now_x (h : EvX te Ps (Dat t)) (e : Same F H) (hs : Slots H σ Ps) (sc : Scal t) {Q : VK} (q : ∀ H', Gr F H F H' → Q t.v H') : te σ H Q :=
  h H H σ (.refl _) hs _ fun v F' H' g p => by
    rw [scal_v sc p]
    exact q H' (gr_now e g.hh)
theorem now_t {tt : TT} {b : Bool} (h : EvT tt Ps b) (e : Same F H) (hs : Slots H σ Ps) {Q : Bool → Hp → Prop} (q : ∀ H', Gr F H F H' → Q b H') : tt σ H Q :=
  h H H σ (.refl _) hs _ fun F' H' g => q H' (gr_now e g.hh)
end
end G
set_option Elab.async false
set_option linter.all false
set_option maxRecDepth 100000
set_option maxHeartbeats 4000000
namespace G
open PySem PySem.Spec PyProof.Rows L2

/-! ### zip of a text and a tuple -/
def ItS (K : PySem.W.Frag) (x : Str) (b : Addr) : It :=
  ⟨fun i H => ∃ (ys : List V) (c : Nat) (y : V), SqT K H b ys ∧ x.cps[i]? = some c ∧ ys[i]? = some y, fun i H v H' => ∃ T c y, v = .ref T ∧ H T = none ∧ H' = upd H T (.tup [.str ⟨#[c]⟩, y]) ∧ x.cps[i]? = some c ∧ ∀ ys, SqT K H b ys → ys[i]? = some y,
    fun i H => ∃ ys : List V, SqT K H b ys ∧ min x.cps.size ys.length = i⟩
theorem turn_zipS {P : Program} {w : World} {K : PySem.W.Frag} {elts : List Expr} {kk : Nat} {tpos : Pos} {z TI TO i1 i2 b : Addr} {x : Str} {t : Tok} (S : ZipSep2 z TI TO i1 i2 [i1] [i2, b]) :
    Turn P w K (.Tuple elts kk tpos) (ItS K x b) [z, TI, TO, i1, i2] z (fun i h => IsZip h z TI TO .none ∧ IsTupOf2 h TI (.ref i1) (.ref i2) ∧ (∃ a1 a2, IsTupOf2 h TO a1 a2) ∧ h.IsStrIter i1 (strIterType x) x t i ∧ h.IsTupleIter i2 b i) where
  mem := by simp
  obj := fun i h st c hc => by
    obtain ⟨hz, hTI, ⟨x, y, hTO⟩, ⟨o1, e1, _, d1⟩, ⟨o2, e2, _, d2⟩⟩ := st
    have e' : c = z ∨ c = TI ∨ c = TO ∨ c = i1 ∨ c = i2 := by simpa using hc
    rcases e' with q | q | q | q | q <;> rw [q]
    · exact ⟨_, hz, fun v q => nomatch q⟩
    · exact ⟨_, hTI, fun v q => nomatch q⟩
    · exact ⟨_, hTO, fun v q => nomatch q⟩
    · exact ⟨o1, e1, fun v q => by rw [d1] at q; cases q⟩
    · exact ⟨o2, e2, fun v q => by rw [d2] at q; cases q⟩
  keep := fun i h h' st k => by
    obtain ⟨hz, hTI, ⟨x, y, hTO⟩, ⟨o1, e1, r1⟩, h2⟩ := st
    exact ⟨k z (by simp) _ hz, k TI (by simp) _ hTI, ⟨x, y, k TO (by simp) _ hTO⟩, ⟨o1, k i1 (by simp) _ e1, r1⟩, h2.at fun o q => k i2 (by simp) o q⟩
  item := by
    intro X hP hw hK hc i pins s σ H E I hf st hg
    subst hP hw hK
    obtain ⟨hz, hTI, hTO, h1, h2⟩ := st
    obtain ⟨ys, c, y, hq, hx, hy⟩ := hg
    obtain ⟨its, rv, p, _⟩ := I.tuple hq
    obtain ⟨u, hu, ru⟩ := rv.get hy
    have hh : X.A.in1.handled = none := I.ok.hd hc
    have hbn : b ≠ i2 := fun e => by
      obtain ⟨o, ho, hcl, hd⟩ := id h2
      rw [← e] at ho
      exact tup_ne p ho (by rw [hcl]; decide) rfl
    have W := GoesN.zip2 (prog := X.prog) (w := X.w) (A := X.A) (elts := elts) (x1 := kk) (pos := tpos) S (Draws.text hh i1 x t) (Draws.tuple hh i2 b hbn its.toArray)
    have hlt : i < min x.cps.size its.toArray.size := by
      have l1 : i < x.cps.size := (Array.getElem?_eq_some_iff.mp hx).1
      have l2 := getElem?_lt hy
      have e2 : its.toArray.size = ys.length := by rw [List.size_toArray]; exact rv.length.symm
      omega
    refine W.goes i s _ E hlt ⟨hz, hTI, hTO, h1, h2, p⟩ fun v h' tk hY st' hk htk => ?_
    obtain ⟨T, y1, y2, rfl, hT, ⟨c', u', hc', rfl⟩, hy2, htup⟩ := hY
    have ec : c' = c := by
      have hc2 : x.cps[i]? = some c' := hc'
      rw [hx] at hc2
      exact (Option.some.inj hc2).symm
    have ey : y2 = u := by
      have hy' : its.toArray[i]? = some y2 := hy2
      have hu' : its.toArray[i]? = some u := by simpa using hu
      rw [hu'] at hy'
      exact (Option.some.inj hy').symm
    subst ec ey
    obtain ⟨s1, s2, s3, s4, s5, s6⟩ := st'
    have hk' : ∀ b o, b ∉ [z, TI, TO, i1, i2] → s.heap.get? b = some o → h'.get? b = some o := fun b o hb q => hk b o (fun m => hb (by
      have m' : b = z ∨ b = TO ∨ b = i1 ∨ b = i2 := by simpa using m
      rcases m' with q | q | q | q <;> rw [q] <;> simp)) q
    refine ⟨.ref T, _, pair_in (x := .str ⟨#[c']⟩) (y := y) (tk := tk) I hk' hf hT htup ⟨_, rfl⟩ ru, rfl, ⟨T, c', y, rfl, I.hok.fresh hT, rfl, hx, fun zs hz => by rw [I.tuple_inj hz hq]; exact hy⟩, ⟨s1, s2, s3, s4, s5⟩, fun b' hb => ?_⟩
    have hb' : b' < s.heap.objs.size := by
      have m' : b' = z ∨ b' = TI ∨ b' = TO ∨ b' = i1 ∨ b' = i2 := by simpa using hb
      obtain ⟨a1, a2, hTO⟩ := hTO
      rcases m' with q | q | q | q | q <;> rw [q]
      · exact Heap.lt_size hz
      · exact Heap.lt_size hTI
      · exact Heap.lt_size hTO
      · obtain ⟨_, e1, _⟩ := h1; exact Heap.lt_size e1
      · obtain ⟨_, e1, _⟩ := h2; exact Heap.lt_size e1
    rw [upd_ne (Nat.ne_of_lt (Nat.lt_of_lt_of_le hb' hT))]
    exact (hf b' hb).1
  done := by
    intro X hP hw hK hc i pins s σ H E I hf st hg
    subst hP hw hK
    obtain ⟨hz, hTI, hTO, h1, h2⟩ := st
    obtain ⟨ys, hq, hx⟩ := hg
    obtain ⟨its, rv, p, _⟩ := I.tuple hq
    have hh : X.A.in1.handled = none := I.ok.hd hc
    have hbn : b ≠ i2 := fun e => by
      obtain ⟨o, ho, hcl, hd⟩ := id h2
      rw [← e] at ho
      exact tup_ne p ho (by rw [hcl]; decide) rfl
    have W := GoesN.zip2 (prog := X.prog) (w := X.w) (A := X.A) (elts := elts) (x1 := kk) (pos := tpos) S (Draws.text hh i1 x t) (Draws.tuple hh i2 b hbn its.toArray)
    have e2 : its.toArray.size = ys.length := by rw [List.size_toArray]; exact rv.length.symm
    have hn : i = min x.cps.size its.toArray.size := by
      rw [e2]
      exact hx.symm
    refine W.stops s _ E (by rw [← hn]; exact ⟨hz, hTI, hTO, h1, h2, p⟩) fun h' tk hk htk => I.turnedL (t' := tk) (ch := [z, TI, TO, i1, i2]) (fun b o hb q => hk b o (fun m => hb (by
      have m' : b = z ∨ b = TO ∨ b = i1 ∨ b = i2 := by simpa using m
      rcases m' with q | q | q | q <;> rw [q] <;> simp)) q) hf
  self := fun A i s Q E st h => wpAny_pyIter_zip st.1 h
def iZipS (K : PySem.W.Frag) (ta : TA) : TI := fun σ H R => ta σ H fun vs H1 => ∃ x b ys, vs = [.str x, .ref b] ∧ SqT K H1 b ys ∧ R (ItS K x b) H1
theorem pi_zipS {X : Cx} {e e2 : Expr} {ta : TA} {p pos tpos : Pos} {elts : List Expr} {kk : Nat} (hg : Gl X "zip") (hm : X.mg "zip" = none) (ha : PA X [e, e2] ta)
    (hs : starEach [e, e2] X.env = (false, eval e X.env) :: starEach [e2] X.env := by rfl) (hpl : (backTo pos (starEach [e2] X.env)).any (·.1) = false := by rfl) :
    PI X (.Tuple elts kk tpos) (.Call (.Name "zip" p) [e, e2] [] pos) (iZipS X.K ta) := by
  refine ⟨fun pins s σ H R I h => ?_⟩
  refine Call_ (ld_blt I hg hm PyProof.Rows.boot_zip (PyProof.Rows.callWith_type1 (thn (ha.run pos pins s σ H _ I h) fun us s1 ⟨vs, H1, I1, r1, x, b, ys, ev, hq, q⟩ => ?_) hs hpl))
  subst ev
  cases r1 with
  | cons r1 r2 =>
    cases r2 with
    | cons r2 r3 =>
      cases r3
      cases r2
      obtain ⟨t, rfl⟩ := r1
      obtain ⟨its, rv, p', hz⟩ := I1.tuple hq
      have hbl : b < s1.heap.objs.size := let ⟨_, e1, _⟩ := p'; Heap.lt_size e1
      refine zip_begins2 (begins_text x t) (begins_tuple b its.toArray) trivial p' fun h' hzp hTI hTO e1 e2 hsz hk => wpAny_pyIter_zip hzp ?_
      have fresh5 : ∀ c, c ∈ [s1.heap.objs.size + 4, s1.heap.objs.size + 2, s1.heap.objs.size + 3, s1.heap.objs.size, s1.heap.objs.size + 1] → FpOk X pins H1 c := fun c hcm => by
        have e' : c = s1.heap.objs.size + 4 ∨ c = s1.heap.objs.size + 2 ∨ c = s1.heap.objs.size + 3 ∨ c = s1.heap.objs.size ∨ c = s1.heap.objs.size + 1 := by simpa using hcm
        have hle : s1.heap.objs.size ≤ c := by
          rcases e' with z | z | z | z | z <;> rw [z]
          · exact Nat.le_add_right _ _
          · exact Nat.le_add_right _ _
          · exact Nat.le_add_right _ _
          · exact Nat.le_refl _
          · exact Nat.le_add_right _ _
        exact I1.fpOk hle (I1.hok.fresh hle)
      exact ⟨s1.heap.objs.size + 4, _, _, _, H1, rfl, I1.kept (t' := s1.toks) hk, turn_zipS (x := x) (t := t) (zip_sep2 (N := s1.heap.objs.size) (fp1 := []) (fp2 := [b]) (fun _ h => nomatch h) fun c hcm => by rw [List.mem_singleton.mp hcm]; exact hbl),
        ⟨hzp, hTI, ⟨_, _, hTO⟩, ⟨_, e1, rfl, rfl⟩, ⟨_, e2, rfl, rfl⟩⟩, fresh5, q⟩
theorem walk_zipS {K : PySem.W.Frag} {x : Str} {b : Addr} {ys : List V} {n : Nat} (hn : n = min x.cps.size ys.length) : Walk (ItS K x b) n (fun H => SqT K H b ys) (YPair (fun i => (x.cps[i]?).map fun c => .str ⟨#[c]⟩) (fun i => ys[i]?)) := by
  subst hn
  refine ⟨fun i H hi q => ⟨ys, x.cps[i]'(by omega), ys[i]'(by omega), q, Array.getElem?_eq_getElem _, List.getElem?_eq_getElem _⟩, fun H q => ⟨ys, q, rfl⟩, fun i H v H' hi q y => ?_⟩
  obtain ⟨T, c, y, h1, h2, h3, h4, h5⟩ := y
  exact ⟨T, .str ⟨#[c]⟩, y, h1, h2, h3, by show (x.cps[i]?).map _ = _; rw [h4]; rfl, h5 ys q⟩
/-- the characters of a text -/
def chars (x : Str) : List Str := x.cps.toList.map fun c => ⟨#[c]⟩
section
variable {K : PySem.W.Frag} {Ps : Tys} {P P' R : Ty} {te ta tb : TE} {tl : TA} {Qs Rs : List Ty} {ts us : List T} {x : Str}
theorem i_zipS (h1 : EvX ta Ps (Dat (.str x))) (h2 : EvX tb Ps (TupP Qs)) : EvI (iZipS K (tCons ta (tCons tb tNil))) Ps ((List.zip ((chars x).map fun c => Dat (.str c)) Qs).map fun p => TupP [p.1, p.2]) := fun F H σ e s Z q =>
  (a_cons h1 (a_cons h2 a_nil)) F H σ e s _ fun vs F1 H1 g1 p1 => by
    cases p1 with
    | cons p1 p2 =>
      cases p2 with
      | cons p2 p3 =>
        cases p3
        rw [dat_str p1]
        obtain ⟨b, ys, rfl, b1, b2⟩ := p2
        have hl : (chars x).length = x.cps.size := by unfold chars; rw [List.length_map]; rfl
        refine ⟨x, b, ys, rfl, SqT.of (g1.fh _ _ b1), q _ F1 H1 g1 (pair_walk (us := (chars x).map V.str) (walk_zipS (K := K) rfl) (AllP.map (f := fun c => Dat (.str c)) (g := V.str) (fun c => RT.str c) (chars x)) b2
          (by rw [List.length_map, hl, b2.len]) (fun i hi => ?_) (fun _ _ => rfl) fun F' H' ea eb => SqT.of (eb _ _ (ea _ _ b1)))⟩
        show (x.cps[i]?).map _ = _
        unfold chars
        rw [List.getElem?_map, List.getElem?_map, Array.getElem?_toList]
        cases x.cps[i]? <;> rfl
/-! ### l[::-1] -/
theorem allP_rev {F : Hp} : ∀ {Qs : List Ty} {xs : List V}, AllP F Qs xs → AllP F Qs.reverse xs.reverse
  | _, _, .nil => .nil
  | _, _, .cons r t => by
    rw [List.reverse_cons, List.reverse_cons]
    exact AllP.append (allP_rev t) (.cons r .nil)
theorem x_revL (h : EvX te Ps (LstP Qs)) : EvX (tRevL K te) Ps (LstP Qs.reverse) := fun F H σ e s Q q => h F H σ e s _ fun v F1 H1 g1 ⟨a, xs, h1, h2, h3⟩ =>
  ⟨a, xs, h1, SqL.of (g1.fh _ _ h2), fun p hp => q _ _ _ (g1.trans (.new g1.fh hp)) ⟨p, _, rfl, upd_same, (allP_rev h3).up (Same.upd_new (g1.fh.free hp))⟩⟩
/-! ### isinstance(x, (tuple, list)) -/
theorem two_cls : Paired ClsV [V.ty "tuple", V.ty "list"] [Value.type "tuple", Value.type "list"] := .cons (.ty _) (.cons (.ty _) .nil)
theorem e_isi2 {P : Ty} {n : String} {b : Bool} (h : EvX te Ps P) (ht : ∀ F H v, Same F H → P.p F v → TyX K H v (.type n)) (hk : PySem.W.kitAny K (.type n) [.type "tuple", .type "list"] = some b) :
    EvX (tCB (rIsiT K) (tCons te (tCons (tTup (tCons (tC (.ty "tuple")) (tCons (tC (.ty "list")) tNil))) tNil))) Ps (Dat (.bl b)) :=
  x_cb (a_cons h (a_cons (x_tup (Qs := [Vl (.ty "tuple"), Vl (.ty "list")]) (a_cons x_ty (a_cons x_ty a_nil)) (by rw [sizeLine_eq]; decide)) a_nil)) fun F H vs e p Q q => by
    cases p with
    | cons p1 p2 =>
      cases p2 with
      | cons p2 p3 =>
        cases p3
        obtain ⟨a, xs, rfl, h1, h2⟩ := p2
        cases h2 with
        | cons r1 h2 =>
          cases h2 with
          | cons r2 h2 =>
            cases h2
            cases r1
            cases r2
            exact ⟨_, a, _, _, _, b, rfl, e _ _ h1, two_cls, ht F H _ e p1, hk, q _ F H (.refl e) (.bl _)⟩
theorem lst_ty {F H : Hp} {v : V} (e : Same F H) (h : (LstP Qs).p F v) : TyX K H v (.type "list") := by
  obtain ⟨a, xs, rfl, h1, _⟩ := h
  exact .base (.lst (e _ _ h1))
end
end G
set_option Elab.async false
set_option linter.all false
set_option maxRecDepth 100000
set_option maxHeartbeats 4000000
namespace G
open PySem PySem.Spec PyProof.Rows L2
/-- the module's numbers -/
structure Mods (mg : Str → Option Value) : Prop where
  REGISTERS_machines : GInt mg "REGISTERS_machines" 8
  MOST_SUM : GInt mg "MOST_SUM" 1000000000000
  MOST_REMEMBERED : GInt mg "MOST_REMEMBERED" 20
  MOST_MACHINES_webs : GInt mg "MOST_MACHINES_webs" 7
  MOST_STANDINGS : GInt mg "MOST_STANDINGS" 5000
  MOST_MACHINES_programs : GInt mg "MOST_MACHINES_programs" 7
  MOST_CELLS : GInt mg "MOST_CELLS" 8
  MOST_ROWS : GInt mg "MOST_ROWS" 60
  REGISTERS_programs : GInt mg "REGISTERS_programs" 8
  MOST_SET : GInt mg "MOST_SET" 1000000
/-! ### the table of the rows' forms -/
def formsL : List (Str × Str) := [("set", "rn"), ("copy", "rr"), ("add", "rrr"), ("take", "rrr"), ("put", "or"), ("look", "rc"), ("tell", "r"), ("rest", ""), ("same", "rrt"), ("less", "rrt"), ("go", "t"), ("call", "t"), ("back", "")]
structure FormsOk (K : PySem.W.Frag) (w : World) (mg : Str → Option Value) (a : Addr) : Prop where
  at_ : mg "FORMS" = some (.ref a)
  lo : (a == sysModules) = false
  tab : ∀ q ∈ formsL, KDct K w a q.1 (.str q.2)
section
variable {X : Cx} {a : Addr} {pos : Pos}
theorem pe_forms (h : FormsOk X.K X.w X.mg a) (hg : Gl X "FORMS" := by rfl) : PE X (.Name "FORMS" pos) (tC (.ref a)) := pe_glob hg h.at_ rfl (by decide)
/-- x not in the table, x there -/
def rNinK (K : PySem.W.Frag) (w : World) : R2 := fun x y H Q => ∃ p z v, x = .str z ∧ y = .ref p ∧ KDct K w p z v ∧ (p == sysModules) = false ∧ Q (.bl false) H
theorem oNinK : OpR X (compareOp .NotIn) (rNinK X.K X.w) := by
  intro pins s σ H x y v u Q I rx ry h
  obtain ⟨p, z, r, rfl, rfl, ⟨es, n, u0, hl, hk, e, ru⟩, lo, q⟩ := h
  cases ry
  obtain ⟨t, rfl⟩ := rx
  refine wpAny_notIn_of (strKind_is X.prog X.w z t) lo (PySem.W.mapOf_K (prog := X.prog) (w := X.w) I.kIn hl hk) ?_
  rw [PySem.W.find_K hl e]
  exact ⟨.bl false, H, I.tok _, rfl, q⟩
end
section
variable {K : PySem.W.Frag} {w : World} {mg : Str → Option Value} {Ps : Tys} {ta : TE} {a : Addr} {x y : Str}
theorem e_ninK (f : FormsOk K w mg a) (hx : (x, y) ∈ formsL) (h : EvX ta Ps (Dat (.str x))) : EvX (tOp (rNinK K w) ta (tC (.ref a))) Ps (Dat (.bl false)) :=
  x_op h (P' := Vl (.ref a)) (x_c fun _ => rfl) fun F H u v e p1 p2 Q q => ⟨a, x, .str y, dat_str p1, p2, f.tab _ hx, f.lo, q _ F H (.refl e) (.bl _)⟩
theorem e_getK (f : FormsOk K w mg a) (hx : (x, y) ∈ formsL) (h : EvX ta Ps (Dat (.str x))) : EvX (tOp (rIxD K w) (tC (.ref a)) ta) Ps (Dat (.str y)) :=
  x_op (P := Vl (.ref a)) (x_c fun _ => rfl) h fun F H u v e p1 p2 Q q => ⟨a, x, .str y, p1, dat_str p2, f.tab _ hx, q _ F H (.refl e) (.str _)⟩
end
/-! ### an instance that is not finished at the call's end; statements with it -/
section
variable {ι : Type}
/-- an __init__: the new instance is not finished -/
def SpO (C : Addr) (pre : ι → Prop) (io : ι → List Ty × Flds) : Sp := fun vs H Q _ => ∃ i F x dx us, pre i ∧ vs = .ref x :: us ∧ Same F H ∧ F x = none ∧ H x = some (.ins C dx []) ∧ AllP F (io i).1 us ∧
  ∀ F' H', Gr F (hid H x) F' H' → Op x C F' H' (io i).2 → Q .non H'
/-- a def that hands back an instance that is not finished -/
def SpU (C : Addr) (pre : ι → Prop) (io : ι → List Ty × Flds) : Sp := fun vs H Q _ => ∃ i F, pre i ∧ Same F H ∧ AllP F (io i).1 vs ∧ ∀ x F' H', Gr F H F' H' → H x = none → Op x C F' H' (io i).2 → Q (.ref x) H'
end
section
variable {K : PySem.W.Frag} {Ps : Tys} {P : Ty} {te : TE} {tl : TA} {D : Ends} {F0 H0 F H : Hp} {σ : L2.St} {ι : Type} {pre : ι → Prop} {io : ι → List Ty × Flds} {C C' : Addr} {m : Str} {tfs : Flds} {Rs : List Ty}
theorem Gr.un {x : Addr} {F' H' : Hp} (e : Same F H) (hx : H x = none) {o o' : HO} {dx : Addr} (hdx : H dx = none) (ne : dx ≠ x) (g : Gr F (hid (upd (upd H dx o') x o) x) F' H') : Gr F H F' H' := by
  have s1 : ∀ b u, H b = some u → (upd (upd H dx o') x o) b = some u := fun b u z => by rw [upd_ne (ne_of_none z hx), upd_ne (ne_of_none z hdx)]; exact z
  refine ⟨g.ff, fun b u z => g.hh b u (by rw [hid_ne (ne_of_none z hx)]; exact s1 b u z), g.fh, fun b hb hf => g.nw b ?_ hf⟩
  cases z : H b with
  | none => exact absurd z hb
  | some u =>
    rw [hid_ne (ne_of_none z hx), s1 b u z]
    exact fun q => by cases q
/-- i = C(..), the instance not finished -/
theorem s_makeO {j : Nat} {E : XK} (R : RS F0 H0 F H σ Ps) (i : ι) (hp : pre i) (h : EvA tl Ps (io i).1) (k : ∀ x F' H' σ', RS F0 H0 F' H' σ' (Ps.set j (some (Vl (.ref x)))) → Op x C F' H' (io i).2 → H0 x = none → F0 x = none → D.nx σ' H') : tAsg (tMake C (SpO C pre io) [] E tl) (gName j) D σ H := by
  refine h F H σ R.fh R.sl _ fun vs F1 H1 g1 p1 => fun x dx hx hdx ne => ?_
  have R1 := R.step g1
  refine ⟨i, F1, x, dx, vs, hp, by rw [List.append_nil], fun b o z => ?_, R1.fh.free hx, upd_same, p1, fun F2 H2 g2 o2 => ⟨rfl, ?_⟩⟩
  · have z' := R1.fh b o z
    rw [upd_ne (ne_of_none z' hx), upd_ne (ne_of_none z' hdx)]
    exact z'
  · have g3 := Gr.un R1.fh hx hdx ne g2
    exact k x F2 H2 _ ((R1.step g3).set j rfl) o2 (R1.gr.hh.free hx) ((R1.gr.hh.trans (.refl _)).free hx |> fun z => by
      cases q : F0 x with
      | none => rfl
      | some o => have := R1.fh _ _ (R1.gr.ff _ _ q); rw [hx] at this; cases this)
/-- i = o.m(), the instance handed back not finished -/
theorem s_methU {j : Nat} {E : XK} (R : RS F0 H0 F H σ Ps) (i : ι) (hp : pre i) (ho : EvX te Ps (InsP C' tfs)) (hm : tfs.lookup m = none) (h : EvA tl Ps Rs) (hi : (io i).1 = InsP C' tfs :: Rs)
    (k : ∀ x F' H' σ', RS F0 H0 F' H' σ' (Ps.set j (some (Vl (.ref x)))) → Op x C F' H' (io i).2 → H0 x = none → F0 x = none → D.nx σ' H') : tAsg (tMeth C' m (SpU C pre io) [] E te tl) (gName j) D σ H :=
  ho F H σ R.fh R.sl _ fun v F1 H1 g1 p0 => by
    obtain ⟨a, dx, fs, h1, h2, h3⟩ := id p0
    refine ⟨a, dx, fs, h1, g1.fh _ _ h2, h3.no hm, h F1 H1 σ g1.fh ((R.step g1).sl) _ fun vs F2 H2 g2 p2 => ?_⟩
    have R2 := (R.step g1).step g2
    refine ⟨i, F2, hp, g2.fh, by rw [hi, List.append_nil]; exact .cons ((InsP C' tfs).up _ _ _ g2.ff p0) p2, fun x F3 H3 g3 hx o3 => ?_⟩
    exact k x F3 H3 _ ((R2.step g3).set j rfl) o3 (R2.gr.hh.free hx) (by
      cases q : F0 x with
      | none => rfl
      | some o => have := R2.fh _ _ (R2.gr.ff _ _ q); rw [hx] at this; cases this)
/-- return x, x finished now -/
theorem s_retO {j x : Nat} (R : RS F0 H0 F H σ Ps) (o : Op x C F H tfs) (h0 : H0 x = none) (hj : Ps[j]? = some (some (Vl (.ref x)))) (k : ∀ v F' H', Gr F0 H0 F' H' → (InsP C tfs).p F' v → D.rt v H') : tRet (tVar j) D σ H := by
  obtain ⟨v, h1, h2⟩ := R.sl.at_ j _ hj
  have h2' : v = .ref x := h2
  obtain ⟨F', g', s', p'⟩ := o.done R.gr h0
  exact ⟨v, h1, by rw [h2']; exact k _ F' H g' p'⟩
/-- x finished: known as such from here on -/
theorem s_seal {x : Nat} (R : RS F0 H0 F H σ Ps) (o : Op x C F H tfs) (h0 : H0 x = none) : ∃ F', RS F0 H0 F' H σ Ps ∧ Same F F' ∧ (InsP C tfs).p F' (.ref x) := by
  obtain ⟨F', g', s', p'⟩ := o.done R.gr h0
  exact ⟨F', ⟨g', R.sl.up s'⟩, s', p'⟩
/-- the slot that holds it -/
theorem RS.know {v : V} {j : Nat} (R : RS F0 H0 F H σ Ps) (hj : Ps[j]? = some (some (Vl v))) (hv : P.p F v) : RS F0 H0 F H σ (Ps.set j (some P)) := by
  refine ⟨R.gr, ⟨by rw [List.length_set]; exact R.sl.len, fun i Q q => ?_⟩⟩
  by_cases e : j = i
  · subst e
    have hl : j < Ps.length := getElem?_lt hj
    rw [List.getElem?_set_self hl] at q
    obtain rfl : P = Q := by simpa using q
    obtain ⟨u, h1, h2⟩ := R.sl.at_ j _ hj
    have h2' : u = v := h2
    exact ⟨u, h1, by rw [h2']; exact hv⟩
  · rw [List.getElem?_set_ne e] at q
    exact R.sl.at_ i Q q
end
section
variable {P : Program} {w : World} {K : PySem.W.Frag} {mg : Str → Option Value} {base : Heap} {x qual : Str} {st : Stmt} {f C : Addr} {fd : FuncData} {N ps : List Str} {k : Nat} {ι : Type} {pre : ι → Prop} {io : ι → List Ty × Flds}
theorem okO (F : Fun K x qual st f fd) (S : FnScope N ps (defScope st)) (len : ∀ i, (io i).1.length + 1 = ps.length)
    (hbody : ∀ (cdv : Value) (A : Around) (outer : List Env) (s : Shared) (H : Hp) (E : XK), Room k (A.deeper (envOfC qual (defScope st) s.heap.objs.size f cdv)) →
      ∃ t, PSs (cxOf CX0 P w K mg base N qual (defScope st) f cdv A outer s H E).nox (defBody st) t ∧
        ∀ i F vs Q x, pre i → RS F (hid H x) F H (start N vs) (stT N (Vl (.ref x) :: (io i).1)) → Op x C F H [] → (∀ F' H', Gr F (hid H x) F' H' → Op x C F' H' (io i).2 → Q .non H') → t { nx := fun _ H' => Q .non H', rt := Q } (start N vs) H) : FnOk P w K mg base CX0 (k + 1) f fd ps (SpO C pre io) := by
  refine F.ok S (fun vs H Q E h => ?_) (fun cdv A outer s H vs Q E hr h => ?_)
  · obtain ⟨i, F, x, dx, us, _, rfl, _, _, _, hv, _⟩ := h
    rw [List.length_cons, ← hv.len, len]
  · obtain ⟨i, F, x, dx, us, hp, rfl, e, hf, hx, hv, q⟩ := h
    obtain ⟨t, d, r⟩ := hbody cdv A outer s H E hr
    refine ⟨t, d, r i F _ Q x hp ⟨⟨.refl _, fun b o z => ?_, e, fun _ _ z => z⟩, slots_st (Ps := Vl (.ref x) :: (io i).1) (.cons rfl hv) N⟩ ⟨hf, dx, [], hx, .nil⟩ q⟩
    by_cases hb : b = x
    · subst hb
      rw [hid_same] at z
      cases z
    · rw [hid_ne hb] at z
      exact z
theorem okU (F : Fun K x qual st f fd) (S : FnScope N ps (defScope st)) (len : ∀ i, (io i).1.length = ps.length)
    (hbody : ∀ (cdv : Value) (A : Around) (outer : List Env) (s : Shared) (H : Hp) (E : XK), Room k (A.deeper (envOfC qual (defScope st) s.heap.objs.size f cdv)) →
      ∃ t, PSs (cxOf CX0 P w K mg base N qual (defScope st) f cdv A outer s H E).nox (defBody st) t ∧
        ∀ i F vs Q, pre i → RS F H F H (start N vs) (stT N (io i).1) → (∀ x F' H', Gr F H F' H' → H x = none → Op x C F' H' (io i).2 → Q (.ref x) H') → t { nx := fun _ H' => Q .non H', rt := Q } (start N vs) H) : FnOk P w K mg base CX0 (k + 1) f fd ps (SpU C pre io) := by
  refine F.ok S (fun vs H Q E h => ?_) (fun cdv A outer s H vs Q E hr h => ?_)
  · obtain ⟨i, F, _, _, hv, _⟩ := h
    rw [← hv.len, len]
  · obtain ⟨i, F, hp, e, hv, q⟩ := h
    obtain ⟨t, d, r⟩ := hbody cdv A outer s H E hr
    exact ⟨t, d, r i F vs Q hp (.here e (slots_st hv N)) q⟩
end
end G
set_option Elab.async false
set_option linter.all false
set_option maxRecDepth 100000
set_option maxHeartbeats 4000000
/-! The statements' rules, telling the growth. -/
namespace G
open PySem PySem.Spec PyProof.Rows L2
section
variable {K : PySem.W.Frag} {Ps : Tys} {P P' R : Ty} {te ta tb : TE} {tl : TA} {tc : TT} {b : Bool} {F0 H0 F H : Hp} {σ : L2.St} {D : Ends} {tu tw t2 : TS} {Qs Rs : List Ty}
theorem g_asg {i : Nat} (R : RS F0 H0 F H σ Ps) (h : EvX te Ps P) (k : ∀ F' H' σ', Gr F H F' H' → RS F0 H0 F' H' σ' (Ps.set i (some P)) → D.nx σ' H') : tAsg te (gName i) D σ H :=
  h F H σ R.fh R.sl _ fun v F1 H1 g1 p1 => k F1 H1 _ g1 ((R.step g1).set i p1)
/-- .. where the next statement stands -/
theorem g_asgS {i : Nat} (R : RS F0 H0 F H σ Ps) (h : EvX te Ps P) (k : ∀ F' H' σ', Gr F H F' H' → RS F0 H0 F' H' σ' (Ps.set i (some P)) → t2 D σ' H') : tSeq (tAsg te (gName i)) t2 D σ H := g_asg R h k
theorem s_asgS {i : Nat} (R : RS F0 H0 F H σ Ps) (h : EvX te Ps P) (k : ∀ F' H' σ', RS F0 H0 F' H' σ' (Ps.set i (some P)) → t2 D σ' H') : tSeq (tAsg te (gName i)) t2 D σ H := s_asg R h k
theorem g_drop (R : RS F0 H0 F H σ Ps) (h : EvX te Ps P) (k : ∀ F' H', Gr F H F' H' → RS F0 H0 F' H' σ Ps → D.nx σ H') : tDrop te D σ H :=
  h F H σ R.fh R.sl _ fun v F1 H1 g1 p1 => k F1 H1 g1 (R.step g1)
theorem g_ifT (R : RS F0 H0 F H σ Ps) (h : EvT tc Ps b) (e : b = true) (h1 : ∀ F' H', Gr F H F' H' → RS F0 H0 F' H' σ Ps → tu D σ H') : tIfS tc tu tw D σ H := by
  subst e
  exact h F H σ R.fh R.sl _ fun F1 H1 g1 => h1 F1 H1 g1 (R.step g1)
theorem g_ifF (R : RS F0 H0 F H σ Ps) (h : EvT tc Ps b) (e : b = false) (h2 : ∀ F' H', Gr F H F' H' → RS F0 H0 F' H' σ Ps → tw D σ H') : tIfS tc tu tw D σ H := by
  subst e
  exact h F H σ R.fh R.sl _ fun F1 H1 g1 => h2 F1 H1 g1 (R.step g1)
theorem g_par {i j : Nat} (R : RS F0 H0 F H σ Ps) (h : EvA tl Ps [P, P']) (k : ∀ F' H' σ', Gr F H F' H' → RS F0 H0 F' H' σ' ((Ps.set i (some P)).set j (some P')) → D.nx σ' H') : tPar i j tl D σ H :=
  h F H σ R.fh R.sl _ fun vs F1 H1 g1 p1 => by
    cases p1 with
    | cons p1 p2 =>
      cases p2 with
      | cons p2 p3 =>
        cases p3
        exact ⟨_, _, rfl, k F1 H1 _ g1 (((R.step g1).set i p1).set j p2)⟩
theorem g_fld {x C : Addr} {tfs tfs' : Flds} {f : Str} {fs : List Str} (R : RS F0 H0 F H σ Ps) (o : Op x C F H tfs) (h0 : H0 x = none) (hx : EvX ta Ps (Vl (.ref x))) (hv : EvX tb Ps P) (c : OwnC K C fs) (hf : f ∈ fs) (hn : tfs.length < 1000) (e : putT f P tfs = tfs')
    (k : ∀ F' H', RS F0 H0 F' H' σ Ps → Op x C F' H' tfs' → D.nx σ H') : sFld K ta tb f D σ H := s_fld R o h0 hx hv c hf hn (by rw [e]; exact k)
end
theorem Slots.forget {F : Hp} {σ : L2.St} {Ps : Tys} (h : Slots F σ Ps) (j : Nat) : Slots F σ (Ps.set j none) := by
  refine ⟨by rw [List.length_set]; exact h.len, fun i P q => ?_⟩
  by_cases e : j = i
  · subst e
    by_cases hl : j < Ps.length
    · rw [List.getElem?_set_self hl] at q; simp at q
    · rw [List.getElem?_eq_none (by rw [List.length_set]; omega)] at q; cases q
  · rw [List.getElem?_set_ne e] at q
    exact h.at_ i P q
theorem RS.forget {F0 H0 F H : Hp} {σ : L2.St} {Ps : Tys} (R : RS F0 H0 F H σ Ps) (j : Nat) : RS F0 H0 F H σ (Ps.set j none) := ⟨R.gr, R.sl.forget j⟩
theorem s_next {T b c : L2.St → Hp → Prop} {r : V → Hp → Prop} {σ : L2.St} {H : Hp} (h : T σ H) : tNext { nx := T, rt := r, bk := b, ct := c } σ H := h
theorem s_nx {T b c : L2.St → Hp → Prop} {r : V → Hp → Prop} {σ : L2.St} {H : Hp} (h : T σ H) : Ends.nx { nx := T, rt := r, bk := b, ct := c } σ H := h
theorem ru65 {A : Around} (hr : Room 2 A) : A.units + 65 < cLine := hu65 (k := 0) hr
theorem ru64 {A : Around} (hr : Room 2 A) : A.units + 64 < cLine := by have := ru65 hr; omega
/-! several values that depend on what is not finished -/
section
variable {F H : Hp} {l : Addr} {Qs : List Ty}
/-- a new list, known to be open -/
theorem opl_new (e : Same F H) (hp : H l = none) : OpL l F (upd H l (.lst [])) [] := ⟨e.free hp, [], upd_same, .nil⟩
end
end G
/-! the rules with the frame's K by name (a comprehension's terms may not lean on its own context) -/
namespace G
open PySem PySem.Spec PyProof.Rows L2
section
variable {X : Cx} {α : Type}
theorem kOp {f : Value → Value → Sem Value} {r : PySem.W.Frag → R2} {K : PySem.W.Frag} (h : OpR X f (r X.K)) (e : X.K = K) : OpR X f (r K) := e ▸ h
theorem kIx {r : PySem.W.Frag → R2} {K : PySem.W.Frag} (h : IxR X (r X.K)) (e : X.K = K) : IxR X (r K) := e ▸ h
theorem kSl {r : PySem.W.Frag → V → Option Int → Option Int → Hp → VK → Prop} {K : PySem.W.Frag} (h : SlR X (r X.K)) (e : X.K = K) : SlR X (r K) := e ▸ h
theorem kC {v : Value} {r : PySem.W.Frag → List V → Hp → VK → Prop} {K : PySem.W.Frag} (h : CallR X v (r X.K)) (e : X.K = K) : CallR X v (r K) := e ▸ h
theorem kPI {t i : Expr} {r : PySem.W.Frag → α → TI} {a : α} {K : PySem.W.Frag} (h : PI X t i (r X.K a)) (e : X.K = K) : PI X t i (r K a) := e ▸ h
theorem kPG {t : Expr} {n : Nat} {u : TGs} {K : PySem.W.Frag} (h : L2.PG X t (gTup X.K n u)) (e : X.K = K) : L2.PG X t (gTup K n u) := e ▸ h
theorem kPF {o : Expr} {te : TE} {f : Str} {K : PySem.W.Frag} (h : PE X o (tFld X.K te f)) (e : X.K = K) : PE X o (tFld K te f) := e ▸ h
end
end G
set_option Elab.async false
set_option linter.all false
set_option maxRecDepth 100000
set_option maxHeartbeats 4000000
/-! A tuple whose object is known to have no dict: what a method call on it asks. -/
namespace G
open PySem PySem.Spec PyProof.Rows L2
open Enc (enc)
def ZupP (Qs : List Ty) : Ty := ⟨fun H v => ∃ (a : Addr) (o : Obj) (xs : List V), v = .ref a ∧ o.dict = Option.none ∧ H a = some (.frz o (.tup xs)) ∧ AllP H Qs xs, fun _ _ _ e ⟨a, o, xs, h1, h2, h3, h4⟩ => ⟨a, o, xs, h1, h2, e _ _ h3, h4.up e⟩⟩
theorem z_sq {K : PySem.W.Frag} {H : Hp} {a : Addr} {o : Obj} {xs : List V} (h : H a = some (.frz o (.tup xs))) : SqT K H a xs := .inl (.inr ⟨o, h⟩)
section
variable {X : Cx}
/-- tuple(l), the new object known -/
def rTupZ (K : PySem.W.Frag) : List V → Hp → VK → Prop := fun vs H Q => ∃ p ys, vs = [.ref p] ∧ SqL K H p ys ∧ ∀ l o, H l = none → o.dict = none → Q (.ref l) (upd H l (.frz o (.tup ys)))
theorem cTupZ : CallR X (.type "tuple") (rTupZ X.K) := by
  intro pins s σ H xs us Q I r h
  obtain ⟨p, ys, rfl, hq, q⟩ := h
  obtain ⟨u, rfl, rx⟩ := vals1 r
  cases rx
  obtain ⟨its, r', pl, hz⟩ := I.list hq
  have hlen := r'.length
  refine call_tuple_list pl.isList (fun h' kp => ?_) (by rw [List.size_toArray]; omega)
  have I1 : Inv X pins σ H { s with heap := h' } := I.kept (t' := s.toks) kp
  have hnew : (h'.push { cls := .type "tuple", data := .seq its.toArray }).get? h'.objs.size = some { cls := .type "tuple", data := .seq its.toArray } := Heap.get?_push_size _ rfl
  refine ⟨.ref h'.objs.size, upd H h'.objs.size (.frz { cls := .type "tuple", data := .seq its.toArray } (.tup ys)), I1.laid (t' := s.toks) (fun b o e => Heap.get?_push_of_some _ e) (Nat.le_refl _) ?_, rfl, q _ _ (I1.hok.fresh (Nat.le_refl _)) rfl⟩
  exact ⟨hnew, hz, its, r', IsTup.new _ _⟩
def tIndexZ (K : PySem.W.Frag) (to : TE) (tl : TA) : TE := fun σ H Q => to σ H fun x H1 => (∃ a o xs, x = .ref a ∧ o.dict = none ∧ H1 a = some (.frz o (.tup xs))) ∧ tl σ H1 fun vs H2 => rIndexT K x vs H2 Q
theorem pe_indexZ {o e : Expr} {es : List Expr} {to : TE} {t : TA} {apos cpos : Pos} (hu : X.A.units + 65 < cLine) (ho : PE X o to) (ha : PA X (e :: es) t)
    (hbase : attributeBase o "index" X.env (eval o X.env) = eval o X.env := by rfl)
    (hfew : ((backTo cpos (starEach (e :: es) X.env)).all (fun x => !x.1) && (backToKw cpos (keywordEach [] X.env)).all (fun x => x.1.isSome)
      && decide ((e :: es).length + ([] : List Keyword).length + (if ([] : List Keyword).isEmpty then 0 else 1) < 30)) = true := by rfl)
    (hline : (apos.endLine == cpos.line) = true := by rfl) (hs : starEach (e :: es) X.env = (false, eval e X.env) :: starEach es X.env := by rfl) (hplain : (backTo cpos (starEach es X.env)).any (·.1) = false := by rfl) :
    PE X (.Call (.Attribute o "index" apos) (e :: es) [] cpos) (tIndexZ X.K to t) := by
  refine ⟨fun pins s σ H Q I h => ?_⟩
  refine wpAny_Call_method_late hbase hfew hline rfl (thn (ho.run pins s σ H _ I h) fun v s1 ⟨x, H1, I1, r1, ⟨a, ob, xs, ex, hdn, hd⟩, q1⟩ => ?_)
  subst ex
  obtain rfl : v = Value.ref a := r1
  obtain ⟨h1, hz, its, rv, o2, h2, h3, _⟩ := (show ObjOk X.prog X.w H1 s1.heap a (.frz ob (.tup xs)) from I1.hok a _ hd)
  have e2 : ob = o2 := Option.some.inj (h1.symm.trans h2)
  subst e2
  refine ⟨"tuple", "tuple.index", PySem.F.plainAttrs_tuple, PySem.F.slot_tuple_index, PySem.F.type_tuple_index, ⟨ob, h1, h3⟩, fun b q => by cases q; exact ⟨ob, h1, hdn⟩, ?_⟩
  have hA := ha.run cpos pins s1 σ H1 _ I1 q1
  rw [hs] at hA ⊢
  refine Calls.callWith_builtin (by show (false || (backTo cpos (starEach es X.env)).any (·.1)) = false; rw [hplain] <;> rfl) (Calls.evalArgs_plain ?_)
  exact thn hA fun us s2 ⟨vs, H2, I2, r2, q2⟩ => mt_indexT hu pins s2 σ H2 (.ref a) vs (.ref a) us Q I2 rfl r2 q2
end
section
variable {K : PySem.W.Frag} {Ps : Tys} {ta tb te : TE} {P : Ty} {Qs : List Ty}
theorem e_tupZ (h : EvX te Ps (LstP Qs)) : EvX (tCB (rTupZ K) (tCons te tNil)) Ps (ZupP Qs) :=
  x_cb (a_cons h a_nil) fun F H vs e p Q q => by
    cases p with
    | cons p1 p2 =>
      cases p2
      obtain ⟨a, xs, rfl, h1, h2⟩ := p1
      exact ⟨a, xs, rfl, SqL.of (e _ _ h1), fun l o hl ho => q _ _ _ (.new e hl) ⟨l, o, xs, rfl, ho, upd_same, h2.up (Same.upd_new (e.free hl))⟩⟩
theorem e_lenZ (h : EvX te Ps (ZupP Qs)) : EvX (tCB (rLenG K) (tCons te tNil)) Ps (Dat (.int Qs.length)) :=
  x_cb (a_cons h a_nil) fun F H vs e p Q q => by
    cases p with
    | cons p1 p2 =>
      cases p2
      obtain ⟨a, o, xs, rfl, h1, h2, h3⟩ := p1
      exact ⟨a, xs, rfl, .inr (z_sq (e _ _ h2)), q _ F H (.refl e) (by rw [← h3.len]; exact .int _)⟩
theorem zup_isi {F H : Hp} {v : V} (e : Same F H) (h : (ZupP Qs).p F v) : TyX K H v (.type "tuple") := by
  obtain ⟨a, o, xs, rfl, h1, h2, h3⟩ := h
  exact .fTuple (e _ _ h2)
theorem x_ixZ {n : Nat} (ha : EvX ta Ps (ZupP Qs)) (hb : EvX tb Ps (Dat (.int (n : Int)))) (hn : Qs[n]? = some P) : EvX (tOp (rIxT K) ta tb) Ps P :=
  x_op ha hb fun F H x y e ⟨a, o, xs, h1, h2, h3, h4⟩ p2 Q q => by
    obtain ⟨v, k1, k2⟩ := h4.get hn
    exact ⟨a, xs, n, v, h1, dat_int p2, z_sq (e _ _ h3), atI_nat k1, q v F H (.refl e) k2⟩
theorem i_zipZ {α β : Type} {f : α → T} {g : β → T} {as : List α} {bs : List β} (h1 : EvX ta Ps (ZupP (as.map fun a => Dat (f a)))) (h2 : EvX tb Ps (Dat (.tup (bs.map g)))) : EvI (RZ.iZipA K (tCons ta (tCons tb tNil))) Ps ((as.zip bs).map fun q => TupP [Dat (f q.1), Dat (g q.2)]) := fun F H σ e s Z q =>
  (a_cons h1 (a_cons (ev_untup h2) a_nil)) F H σ e s _ fun vs F1 H1 g1 p1 => by
    cases p1 with
    | cons p1 p2 =>
      cases p2 with
      | cons p2 p3 =>
        cases p3
        obtain ⟨a, o, xs, rfl, _, a1, a2⟩ := p1
        obtain ⟨b, ys, rfl, b1, b2⟩ := p2
        have hW := pair_walk (walk_zipT (K := K) (a := a) (b := b) rfl) a2 b2 (by rw [a2.len, b2.len]) (fun _ _ => rfl) (fun _ _ => rfl) fun F' H' ea eb => ⟨z_sq (eb _ _ (ea _ _ a1)), SqT.of (eb _ _ (ea _ _ b1))⟩
        have hm : (List.zip (as.map fun a => Dat (f a)) ((bs.map g).map Dat)).map (fun p => TupP [p.1, p.2]) = (as.zip bs).map fun q => TupP [Dat (f q.1), Dat (g q.2)] := by
          rw [List.map_map, List.zip_map, List.map_map]
          rfl
        rw [hm] at hW
        exact ⟨a, b, xs, ys, rfl, .inr ⟨z_sq (g1.fh _ _ a1), SqT.of (g1.fh _ _ b1), q _ F1 H1 g1 hW⟩⟩
theorem i_enumZ (h : EvX te Ps (ZupP Qs)) : EvI (iEnumT K (tCons te tNil)) Ps ((List.zip ((List.range Qs.length).map fun (k : Nat) => Dat (.int (k : Int))) Qs).map fun p => TupP [p.1, p.2]) := fun F H σ e s Z q =>
  (a_cons h a_nil) F H σ e s _ fun vs F1 H1 g1 p1 => by
    cases p1 with
    | cons p1 p2 =>
      cases p2
      obtain ⟨a, o, xs, rfl, _, a1, a2⟩ := p1
      refine ⟨a, xs, rfl, z_sq (g1.fh _ _ a1), q _ F1 H1 g1 (pair_walk (us := (List.range xs.length).map fun (k : Nat) => V.int k) (walk_enumT (K := K)) (by rw [a2.len]; exact AllP.map (f := fun (k : Nat) => Dat (.int (k : Int))) (g := fun (k : Nat) => V.int k) (fun k => RT.int _) _) a2 (by simp [a2.len]) (fun i hi => ?_) (fun _ _ => rfl) fun F' H' ea eb => z_sq (eb _ _ (ea _ _ a1)))⟩
      rw [List.getElem?_map, List.getElem?_range hi]
      rfl
/-- the wires -/
abbrev wsP (ws : List (Nat × Nat)) : Ty := ZupP (ws.map fun q => Dat (enc q))
theorem idx_cons {α : Type} (B : BEq α) {a x : α} {xs : List α} : @List.idxOf α B a (x :: xs) = bif (@BEq.beq α B x a) then 0 else @List.idxOf α B a xs + 1 := List.idxOf_cons
theorem idx_cast {y x : Nat} : ∀ {ws : List (Nat × Nat)}, idxP ((y : Int), (x : Int)) (ws.map fun q => ((q.1 : Int), (q.2 : Int))) = ws.idxOf (y, x)
  | [] => rfl
  | q :: ws => by
    have ih := idx_cast (y := y) (x := x) (ws := ws)
    have hb : ((instBEqOfDecidableEq : BEq (Int × Int)).beq ((q.1 : Int), (q.2 : Int)) ((y : Int), (x : Int))) = (q == (y, x)) := by
      rw [Bool.eq_iff_iff]
      show decide _ = true ↔ _
      rw [decide_eq_true_eq, beq_iff_eq]
      obtain ⟨a, b⟩ := q
      simp only [Prod.mk.injEq]
      omega
    unfold idxP at ih ⊢
    rw [List.map_cons, idx_cons instBEqOfDecidableEq, idx_cons instBEqProd, ih, hb]
theorem z_dp {F H : Hp} {v : V} {ws : List (Nat × Nat)} (e : Same F H) (h : (wsP ws).p F v) : Dp K H v (.tuple ((ws.map fun q => ((q.1 : Int), (q.2 : Int))).map fun p => .tuple [.int p.1, .int p.2])) := by
  obtain ⟨a, o, xs, rfl, _, h2, h3⟩ := h
  refine .tup (z_sq (e _ _ h2)) ?_
  clear h2
  induction ws generalizing xs with
  | nil => cases h3; exact .nil
  | cons q ws ih =>
    cases h3 with
    | cons r t => exact .cons (RT.dp _ _ (RT.up e _ _ r)) (ih _ t)
theorem e_indexZ {ws : List (Nat × Nat)} {y x : Nat} (ha : EvX ta Ps (wsP ws)) (hb : EvX tb Ps (Dat (.tup [.int (y : Int), .int (x : Int)]))) (hm : (y, x) ∈ ws) : EvX (tIndexZ K ta (tCons tb tNil)) Ps (Dat (.int (ws.idxOf (y, x) : Nat))) := fun F H σ e s Q q =>
  ha F H σ e s _ fun v F1 H1 g1 p1 => by
    obtain ⟨a, o, xs, h1, h2, h3, h4⟩ := id p1
    refine ⟨⟨a, o, xs, h1, h2, g1.fh _ _ h3⟩, (a_cons hb a_nil) F1 H1 σ g1.fh (s.up g1.ff) _ fun vs F2 H2 g2 p2 => ?_⟩
    cases p2 with
    | cons p2 p3 =>
      cases p3
      refine ⟨_, y, x, ws.map fun q => ((q.1 : Int), (q.2 : Int)), rfl, z_dp (g1.fh.trans g2.hh) p1, RT.dp _ _ (RT.up g2.fh _ _ p2), List.mem_map.mpr ⟨(y, x), hm, rfl⟩, ?_⟩
      rw [idx_cast]
      exact q _ F2 H2 (g1.trans g2) (.int _)
end
end G
set_option Elab.async false
set_option linter.all false
set_option maxRecDepth 100000
set_option maxHeartbeats 4000000
/-! The tables of sets, up to the mask 511 (HandS.TupSets serves masks up to 127). -/
namespace G
open PySem PySem.Spec PyProof.Rows L2

/-! ### masks by whose leaps every slot is met -/
/-- the first n leaps from 0 -/
def orb (m : Nat) : Nat → Nat → List Nat
  | 0, _ => []
  | n + 1, i => i :: orb m n ((i * 5 + 1) % (m + 1))
theorem orb_mem {m : Nat} : ∀ (n a j : Nat), j ∈ orb m n (lcgN m a) → ∃ k, k < n ∧ lcgN m (a + k) = j
  | 0, _, _, h => by cases h
  | n + 1, a, j, h => by
    rcases List.mem_cons.mp h with rfl | h
    · exact ⟨0, Nat.succ_pos _, rfl⟩
    · obtain ⟨k, h1, h2⟩ := orb_mem n (a + 1) j h
      exact ⟨k + 1, by omega, by rw [← h2]; congr 1; omega⟩
structure Mk (m : Nat) : Prop where
  odd : m % 2 = 1
  big : m ≤ 511
  round : lcgN m (m + 1) = 0
  all : ∀ j, j ≤ m → ∃ b, b ≤ m ∧ lcgN m b = j
def mkB (m : Nat) : Bool :=
  let o := orb m (m + 1) 0
  (List.range (m + 1)).all fun j => o.contains j
theorem Mk.of {m : Nat} (h1 : m % 2 = 1) (h2 : m ≤ 511) (h3 : lcgN m (m + 1) = 0) (h4 : mkB m = true) : Mk m := by
  refine ⟨h1, h2, h3, fun j hj => ?_⟩
  have h5 := List.all_eq_true.mp h4 j (List.mem_range.mpr (Nat.lt_succ_of_le hj))
  have h6 : j ∈ orb m (m + 1) (lcgN m 0) := List.contains_iff_mem.mp h5
  obtain ⟨k, k1, k2⟩ := orb_mem (m + 1) 0 j h6
  rw [Nat.zero_add] at k2
  exact ⟨k, Nat.le_of_lt_succ k1, k2⟩
theorem mk7 : Mk 7 := .of (by decide) (by decide) (by decide +kernel) (by decide +kernel)
theorem mk31 : Mk 31 := .of (by decide) (by decide) (by decide +kernel) (by decide +kernel)
theorem mk127 : Mk 127 := .of (by decide) (by decide) (by decide +kernel) (by decide +kernel)
theorem mk511 : Mk 511 := .of (by decide) (by decide) (by decide +kernel) (by decide +kernel)
section
variable {m : Nat}
theorem Mk.again (M : Mk m) (k : Nat) : lcgN m (m + 1 + k) = lcgN m k := by
  induction k with
  | zero => exact M.round
  | succ k ih =>
    show (lcgN m (m + 1 + k) * 5 + 1) % (m + 1) = (lcgN m k * 5 + 1) % (m + 1)
    rw [ih]
theorem Mk.from_ (M : Mk m) {i j : Nat} (hi : i ≤ m) (hj : j ≤ m) : ∃ k, k ≤ m ∧ lcgI m i k = j := by
  obtain ⟨a, a1, rfl⟩ := M.all i hi
  obtain ⟨b, b1, b2⟩ := M.all j hj
  by_cases h : a ≤ b
  · exact ⟨b - a, by omega, by rw [lcgN_add, ← b2]; congr 1; omega⟩
  · refine ⟨b + (m + 1) - a, by omega, ?_⟩
    have e : a + (b + (m + 1) - a) = m + 1 + b := by omega
    rw [lcgN_add, e, M.again, b2]
theorem Mk.run (M : Mk m) (h : Int) {j : Nat} (hj : j ≤ m) : ∃ n, n ≤ m + 12 ∧ runI m (SetTable.bits h) n = j := by
  obtain ⟨k, k1, k2⟩ := M.from_ (runI_le m (SetTable.bits h) 12) hj
  refine ⟨12 + k, by omega, ?_⟩
  rw [runI_tail (bits_lt h), k2]
theorem Mk.meets (M : Mk m) (h : Int) {j : Nat} (hj : j ≤ m) : ∃ k, k < 10 * SetTable.turns m ∧ way m h k = j := by
  obtain ⟨n, n1, n2⟩ := M.run h hj
  obtain ⟨k, k1, k2⟩ := run_nth m (SetTable.bits h) n
  have h10 : 10 * SetTable.turns m = 10 * (m + 15) := rfl
  refine ⟨k, by omega, ?_⟩
  show (nth m _ k).j = j
  rw [k2]
  exact n2
theorem way_in (m : Nat) (h : Int) (k : Nat) : way m h k ≤ m := by
  have h0 : SetTable.bits h % (m + 1) ≤ m := Nat.le_of_lt_succ (Nat.mod_lt _ (Nat.succ_pos _))
  have h1 := runEnd_bd h0
  have h2 : (runAt m (SetTable.bits h % (m + 1)) (SetTable.bits h)).j + (runAt m (SetTable.bits h % (m + 1)) (SetTable.bits h)).more ≤ m := by
    show SetTable.bits h % (m + 1) + (_ - SetTable.bits h % (m + 1)) ≤ m
    omega
  exact Nat.le_trans (Nat.le_add_right _ _) (nth_in k _ h2)
end
/-! ### a table that finds again what it holds -/
structure Tab (t : SetTable) (hs : List Int) : Prop where
  ris : Ris t.place.toList
  dm : t.dummies = #[]
  sz : t.place.toList.length = hs.length
  msk : Mk t.mask
  bd : ∀ x ∈ t.place.toList, x ≤ t.mask
  rch : ∀ (i : Nat) (h : Int) (j : Nat), hs[i]? = some h → t.place.toList[i]? = some j → ∃ k, way t.mask h k = j ∧ ∀ k', k' < k → way t.mask h k' ∈ t.place.toList
section
variable {t : SetTable} {hs : List Int}
theorem Tab.sz' (T : Tab t hs) : t.place.size = hs.length := by rw [← T.sz]; rfl
theorem Tab.free (T : Tab t hs) (hl : hs.length ≤ t.mask) (h : Int) : ∃ K, K < 10 * SetTable.turns t.mask ∧ way t.mask h K ∉ t.place.toList ∧ ∀ k, k < K → way t.mask h k ∈ t.place.toList := by
  obtain ⟨j, j1, j2⟩ := st_missing t.place.toList (t.mask + 1) (by rw [T.sz]; omega)
  obtain ⟨k, k1, k2⟩ := T.msk.meets h (Nat.le_of_lt_succ j1)
  obtain ⟨K, a1, a2, a3⟩ := st_least (p := fun k => way t.mask h k ∉ t.place.toList) k (by rw [k2]; exact j2)
  exact ⟨K, Nat.lt_of_le_of_lt a1 k1, a2, fun c hc => Classical.byContradiction (a3 c hc)⟩
theorem Tab.ahead (T : Tab t hs) {h : Int} {K i j : Nat} (hK : way t.mask h K ∉ t.place.toList) (hi : hs[i]? = some h) (hj : t.place.toList[i]? = some j) : ∃ k, k < K ∧ way t.mask h k = j := by
  obtain ⟨k, k1, k2⟩ := T.rch i h j hi hj
  refine ⟨k, Nat.lt_of_not_le fun hle => hK ?_, k1⟩
  rcases Nat.lt_or_eq_of_le hle with z | z
  · exact k2 K z
  · rw [z, k1]
    exact List.mem_of_getElem? hj
/-- one is put in, at the first free slot of its way -/
theorem Tab.put (T : Tab t hs) {h : Int} {K p j : Nat} (hK : way t.mask h K ∉ t.place.toList) (hb : ∀ k, k < K → way t.mask h k ∈ t.place.toList) (hj : j = way t.mask h K) (hp : p = SetTable.below t.place j) :
    p ≤ hs.length ∧ Tab (t.put j).1 (hs.take p ++ h :: hs.drop p) := by
  have hjm : j ≤ t.mask := hj ▸ way_in _ _ _
  rw [← hj] at hK
  have hcut := (below_cut T.ris j).1
  rw [← hp, T.sz'] at hcut
  have hcut' : p ≤ t.place.toList.length := by rw [T.sz]; exact hcut
  have hno : t.place[SetTable.below t.place j]? ≠ some j := fun e => hK (List.mem_of_getElem? (by rw [Array.getElem?_toList]; exact e))
  have e1 : (t.put j).1.place.toList = t.place.toList.take p ++ j :: t.place.toList.drop p := by rw [put_place, ← hp]
  have up : ∀ {x : Nat}, x ∈ t.place.toList → x ∈ (t.put j).1.place.toList := fun hx => by rw [e1]; exact mem_ins.mpr (.inr hx)
  refine ⟨hcut, ris_insert T.ris hno, put_dm T.dm j, ?_, T.msk, fun x hx => ?_, fun i g q h1 h2 => ?_⟩
  · rw [e1, len_ins _ hcut', len_ins _ hcut, T.sz]
  · rw [e1] at hx
    rcases mem_ins.mp hx with z | z
    · exact z ▸ hjm
    · exact T.bd x z
  · rw [tins_get hs hcut] at h1
    rw [e1, tins_get _ hcut'] at h2
    show ∃ k, way t.mask g k = q ∧ _
    have keep : ∀ i, hs[i]? = some g → t.place.toList[i]? = some q → ∃ k, way t.mask g k = q ∧ ∀ k', k' < k → way t.mask g k' ∈ (t.put j).1.place.toList := fun i a b =>
      let ⟨k, k1, k2⟩ := T.rch i g q a b
      ⟨k, k1, fun c hc => up (k2 c hc)⟩
    by_cases c1 : i < p
    · rw [if_pos c1] at h1 h2
      exact keep i h1 h2
    · rw [if_neg c1] at h1 h2
      by_cases c2 : i = p
      · rw [if_pos c2] at h1 h2
        cases h1
        cases h2
        exact ⟨K, hj.symm, fun c hc => up (hb c hc)⟩
      · rw [if_neg c2] at h1 h2
        exact keep (i - 1) h1 h2
end
/-! ### a table laid anew -/
section
variable {m : Nat}
theorem Mk.spot (M : Mk m) (owner : Array (Option Nat)) (h : Int) {j : Nat} (hj : j ≤ m) (hf : oAt owner j = none) :
    ∃ K, SetTable.layClean.free m owner (SetTable.turns m) (SetTable.bits h % (m + 1)) (SetTable.bits h) = some (way m h K) ∧ oAt owner (way m h K) = none ∧ ∀ k, k < K → oAt owner (way m h k) ≠ none := by
  obtain ⟨n, n1, n2⟩ := M.run h hj
  have hat : way m h (off m (SetTable.bits h % (m + 1)) (SetTable.bits h) n) = j := by
    show (nth m _ _).j = j
    rw [nth_off, itL_run]
    exact n2
  obtain ⟨K, a1, a2, a3⟩ := st_least (p := fun k => oAt owner (way m h k) = none) _ (by rw [hat]; exact hf)
  have ht : n < SetTable.turns m := by show n < m + 15; omega
  refine ⟨K, free_spec m owner _ n _ _ K ht a1 (fun k hk => ?_) (by rw [show oAt owner _ = none from a2]; rfl), a2, a3⟩
  cases z : oAt owner (way m h k) with
  | none => exact absurd z (a3 k hk)
  | some v => rfl
theorem some_ne {α : Type} {a : α} : (some a) ≠ none := fun z => by cases z
/-- one more is laid -/
theorem Mk.lay (M : Mk m) {done : List Int} {owner : Array (Option Nat)} (W : Own m done owner) (hl : done.length ≤ m) (h : Int) :
    ∃ j, SetTable.layClean.free m owner (SetTable.turns m) (SetTable.bits h % (m + 1)) (SetTable.bits h) = some j ∧ Own m (done ++ [h]) (owner.setIfInBounds j (some done.length)) := by
  obtain ⟨ps, p1, p2⟩ := W.ps
  obtain ⟨f, f1, f2⟩ := st_missing ps (m + 1) (by rw [p1]; omega)
  have hf : oAt owner f = none := Classical.byContradiction fun z => f2 (p2 f (Nat.le_of_lt_succ f1) z)
  obtain ⟨K, a1, a2, a3⟩ := M.spot owner h (Nat.le_of_lt_succ f1) hf
  have hin := way_in m h K
  have hsz : way m h K < owner.size := by rw [W.sz]; omega
  refine ⟨_, a1, ?_⟩
  generalize hj : way m h K = j at a2 hin hsz
  have self := oAt_set_self (some done.length) hsz
  have up : ∀ i, oAt owner i ≠ none → oAt (owner.setIfInBounds j (some done.length)) i ≠ none := fun i hi => by
    by_cases c : i = j
    · rw [c, self]; exact some_ne
    · rw [oAt_set_ne _ c]; exact hi
  constructor
  · rw [Array.size_setIfInBounds]
    exact W.sz
  · intro i k hi e
    by_cases c : i = j
    · subst c
      rw [self] at e
      cases e
      refine ⟨h, K, ?_, hj, fun c hc => up _ (a3 c hc)⟩
      rw [List.getElem?_append_right (Nat.le_refl _), Nat.sub_self]
      rfl
    · rw [oAt_set_ne _ c] at e
      obtain ⟨g, K', b1, b2, b3⟩ := W.at_ i k hi e
      refine ⟨g, K', ?_, b2, fun c hc => up _ (b3 c hc)⟩
      rw [List.getElem?_append_left (List.getElem?_eq_some_iff.mp b1).1, b1]
  · intro k hk
    rcases Nat.lt_or_ge k done.length with c | c
    · obtain ⟨i, i1, i2⟩ := W.all k c
      have hne : i ≠ j := fun z => by rw [z, a2] at i2; cases i2
      exact ⟨i, i1, by rw [oAt_set_ne _ hne]; exact i2⟩
    · have : k = done.length := by
        rw [List.length_append, List.length_singleton] at hk
        omega
      exact ⟨j, hin, by rw [this]; exact self⟩
  · refine ⟨j :: ps, by rw [List.length_cons, p1, List.length_append]; rfl, fun i hi e => ?_⟩
    by_cases c : i = j
    · exact c ▸ List.mem_cons_self
    · rw [oAt_set_ne _ c] at e
      exact List.mem_cons_of_mem _ (p2 i hi e)
theorem Mk.lays (M : Mk m) : ∀ (rest done : List Int) (owner : Array (Option Nat)), Own m done owner → done.length + rest.length ≤ m →
    ∃ owner', rest.foldl (stepF m) (some (owner, done.length)) = some (owner', done.length + rest.length) ∧ Own m (done ++ rest) owner'
  | [], done, owner, W, _ => ⟨owner, rfl, by rw [List.append_nil]; exact W⟩
  | h :: rest, done, owner, W, hl => by
    rw [List.length_cons] at hl ⊢
    obtain ⟨j, j1, j2⟩ := M.lay W (by omega) h
    obtain ⟨ow, o1, o2⟩ := M.lays rest (done ++ [h]) _ j2 (by rw [List.length_append, List.length_singleton]; omega)
    rw [List.append_assoc] at o2
    refine ⟨ow, ?_, o2⟩
    rw [List.foldl_cons, stepF_some j1]
    rw [List.length_append, List.length_singleton] at o1
    rw [o1]
    congr 2
    omega
theorem relaid_tab (t : SetTable) {hs : Array Int} {wanted m : Nat} (hw : SetTable.sizeAbove wanted - 1 = m) (M : Mk m) (hn : hs.size ≤ m) :
    ∃ t' order, t.relaid hs wanted = some (t', order) ∧ order.toList.Perm (List.range hs.size) ∧ Tab t' (order.toList.map fun i => hs.getD i 0) ∧ t'.mask = m ∧ t'.led = t.led ∧ t'.plain = t.plain := by
  obtain ⟨ow, o1, W⟩ := M.lays hs.toList [] _ (Own.init m) (by show 0 + hs.toList.length ≤ m; rw [Array.length_toList, Nat.zero_add]; exact hn)
  rw [List.nil_append] at W
  have hr : t.relaid hs wanted = some (tabOf t m ow, ((liveOf m ow).map (·.2)).toArray) := by
    rw [relaid_eq, hw, layClean_eq]
    rw [List.length_nil] at o1
    rw [o1]
    rfl
  have hris := ris_live (fun j => ow.getD j none) (List.range (m + 1)) (by unfold Ris; exact List.pairwise_lt_range)
  have r1 : Ris ((liveOf m ow).map (·.1)) := hris.1
  have r2 : ∀ x ∈ (liveOf m ow).map (·.1), x ≤ m := fun x hx => Nat.le_of_lt_succ (List.mem_range.mp (hris.2 x hx))
  have hz : hs.toList.length = hs.size := rfl
  have full : ∀ k, k < hs.size → k ∈ (liveOf m ow).map (·.2) := fun k hk => by
    obtain ⟨j, j1, j2⟩ := W.all k (by rw [hz]; exact hk)
    exact List.mem_map.mpr ⟨(j, k), (mem_live W.sz).mpr ⟨j1, j2⟩, rfl⟩
  have hlen : (liveOf m ow).length = hs.size := by
    obtain ⟨ps, p1, p2⟩ := W.ps
    refine Nat.le_antisymm ?_ ?_
    · have nd : ((liveOf m ow).map (·.1)).Nodup := r1.imp fun z => Nat.ne_of_lt z
      have := nat_nodup_len _ ps nd fun x hx => by
        obtain ⟨⟨y, k⟩, q1, rfl⟩ := List.mem_map.mp hx
        obtain ⟨b1, b2⟩ := (mem_live W.sz).mp q1
        exact p2 _ b1 (by rw [b2]; exact some_ne)
      rw [List.length_map, p1, hz] at this
      exact this
    · have := nat_nodup_len (List.range hs.size) ((liveOf m ow).map (·.2)) List.nodup_range fun k hk => full k (List.mem_range.mp hk)
      rw [List.length_map, List.length_range] at this
      exact this
  refine ⟨_, _, hr, perm_range _ _ (by show ((liveOf m ow).map (·.2)).length = _; rw [List.length_map, hlen]) full, ⟨r1, rfl, ?_, M, r2, fun i g j h1 h2 => ?_⟩, rfl, rfl, rfl⟩
  · show ((liveOf m ow).map (·.1)).length = (((liveOf m ow).map (·.2)).map _).length
    rw [List.length_map, List.length_map, List.length_map]
  · replace h1 : (((liveOf m ow).map (·.2)).map fun i => hs.getD i 0)[i]? = some g := h1
    replace h2 : ((liveOf m ow).map (·.1))[i]? = some j := h2
    rw [List.getElem?_map, List.getElem?_map] at h1
    rw [List.getElem?_map] at h2
    obtain ⟨⟨y, k⟩, q1, q2⟩ := Option.map_eq_some_iff.mp h2
    rw [q1] at h1
    cases q2
    have eg : hs.getD k 0 = g := Option.some.inj h1
    obtain ⟨b1, b2⟩ := (mem_live W.sz).mp (List.mem_of_getElem? q1)
    obtain ⟨g', K, c1, c2, c3⟩ := W.at_ _ k b1 b2
    have eg' : g = g' := by
      rw [← eg, Array.getD_eq_getD_getElem?, ← Array.getElem?_toList, c1]
      rfl
    subst eg'
    refine ⟨K, c2, fun c hc => ?_⟩
    show way m g c ∈ (liveOf m ow).map (·.1)
    cases z : oAt ow (way m g c) with
    | none => exact absurd z (c3 c hc)
    | some v => exact List.mem_map.mpr ⟨(way m g c, v), (mem_live W.sz).mpr ⟨way_in _ _ _, z⟩, rfl⟩
end
theorem grow5 : SetTable.sizeAbove (SetTable.grown 5) = 32 := by decide +kernel
theorem grow19 : SetTable.sizeAbove (SetTable.grown 19) = 128 := by decide +kernel
theorem grow77 : SetTable.sizeAbove (SetTable.grown 77) = 512 := by decide +kernel
end G
set_option Elab.async false
set_option linter.all false
set_option maxRecDepth 100000
set_option maxHeartbeats 4000000
/-! Sets of nested tuples of numbers. -/
namespace G
open PySem PySem.Spec PyProof.Rows L2
mutual
/-- no text in it -/
def plK : NestedKey → Bool
  | .none => true
  | .num _ => true
  | .text _ => false
  | .tup ks => plKs ks
def plKs : List NestedKey → Bool
  | [] => true
  | k :: ks => plK k && plKs ks
end
section
variable {P : Program} {w : World}
/-- a question whose answer is b and that changes nothing -/
def Ans (P : Program) (w : World) (s : Shared) (m : Sem Bool) (b : Bool) : Prop := ∀ (A : Around) (E : Value → Shared → Prop) (Q : Bool → Shared → Prop), Q b s → wpAny (model P w) A m Q E s
theorem Ans.val {s : Shared} {b : Bool} : Ans P w s (pure b) b := fun A E Q q => wpAny_pure q
/-- all items are asked, none stops -/
theorem ans_each {s : Shared} {g : Value → Sem Bool} {c : Bool} {its : Array Value} {r : Bool} {body : Value → Option Bool × PUnit → Sem (ForInStep (Option Bool × PUnit))}
    (hb : ∀ v ∈ its.toList, ∀ A E (Q : ForInStep (Option Bool × PUnit) → Shared → Prop), Q (.yield (none, PUnit.unit)) s → wpAny (model P w) A (body v (none, PUnit.unit)) Q E s)
    (A : Around) (E : Value → Shared → Prop) (Q : Option Bool × PUnit → Shared → Prop) (q : Q (none, PUnit.unit) s) : wpAny (model P w) A (forIn its (none, PUnit.unit) body) Q E s := by
  rw [← Array.forIn_toList]
  refine wpAny_forIn_list _ (fun rest z s' => z = (none, PUnit.unit) ∧ s' = s ∧ ∀ v ∈ rest, v ∈ its.toList) _ ?_ ?_ _ _ ⟨rfl, rfl, fun v hv => hv⟩
  · rintro v rest z s' ⟨rfl, rfl, h⟩
    exact hb v (h v List.mem_cons_self) _ _ _ ⟨rfl, rfl, fun u hu => h u (List.mem_cons_of_mem _ hu)⟩
  · rintro z s' ⟨rfl, rfl, _⟩
    exact q
theorem class_tup {n : Nat} {s : Shared} {a : Addr} {o : Obj} {vs : Array Value} {m : Nat} (ho : s.heap.get? a = some o) (hc : o.cls = .type "tuple") (hd : o.data = .seq vs m)
    (h : ∀ v ∈ vs.toList, Ans P w s (ofAClassStatement n v) false) : Ans P w s (ofAClassStatement (n + 1) (.ref a)) false := fun A E Q q => by
  have hT : s.TypeIs (.ref a) "tuple" := ⟨o, ho, hc⟩
  unfold ofAClassStatement
  refine wpAny_bind (wpAny_typeOf hT ?_)
  dsimp only
  have e : (("tuple" : String) == "tuple") = true := by decide
  simp only [e, if_true]
  refine wpAny_bind (wpAny_pure ?_)
  simp only [Bool.not_true, Bool.false_eq_true, if_false]
  refine wpAny_bind (wpAny_seqItems ho hd ?_)
  dsimp only
  refine wpAny_bind (ans_each (g := fun _ => pure false) (c := false) (r := false) (fun v hv A E Q q => ?_) A E _ (wpAny_pure q))
  refine wpAny_bind (h v hv _ _ _ ?_)
  simp only [Bool.false_eq_true, if_false]
  exact wpAny_pure q
theorem hash_tup {n : Nat} {s : Shared} {a : Addr} {o : Obj} {vs : Array Value} {m : Nat} (ho : s.heap.get? a = some o) (hc : o.cls = .type "tuple") (hd : o.data = .seq vs m)
    (h : ∀ v ∈ vs.toList, Ans P w s (hashByValue n v) true) : Ans P w s (hashByValue (n + 1) (.ref a)) true := fun A E Q q => by
  have hT : s.TypeIs (.ref a) "tuple" := ⟨o, ho, hc⟩
  unfold hashByValue
  refine wpAny_bind (wpAny_specialOf hT F.slot_tuple_hash.lookup ?_)
  dsimp only
  refine wpAny_bind (wpAny_seqItems ho hd ?_)
  refine wpAny_bind (ans_each (g := fun _ => pure true) (c := false) (r := false) (fun v hv A E Q q => ?_) A E _ (wpAny_pure q))
  refine wpAny_bind (h v hv _ _ _ ?_)
  simp only [Bool.not_true, Bool.false_eq_true, if_false]
  exact wpAny_pure q
mutual
theorem class_key : ∀ (k : NestedKey) (v : Value) (n : Nat) (s : Shared), NestedIs s.heap k v → k.depth ≤ n → Ans P w s (ofAClassStatement n v) false
  | .none, _, n, s, x, _ => by cases x; cases n <;> exact .val
  | .num i, _, n, s, x, _ => by cases x <;> cases n <;> exact .val
  | .text y, _, n, s, x, _ => by cases x; cases n <;> exact .val
  | .tup ks, _, 0, s, x, hn => by simp only [NestedKey.depth] at hn; omega
  | .tup ks, _, n + 1, s, x, hn => by
    cases x with
    | tup h1 h2 h3 h4 =>
      simp only [NestedKey.depth] at hn
      exact class_tup h1 h2 h3 (class_keys ks _ n s h4 (by omega))
theorem class_keys : ∀ (ks : List NestedKey) (vs : List Value) (n : Nat) (s : Shared), NestedAll s.heap ks vs → NestedKey.depthAll ks ≤ n → ∀ v ∈ vs, Ans P w s (ofAClassStatement n v) false
  | [], _, _, _, x, _, v, hv => by cases x; cases hv
  | k :: ks, _, n, s, x, hn, v, hv => by
    cases x with
    | cons x1 x2 =>
      simp only [NestedKey.depthAll] at hn
      rcases List.mem_cons.mp hv with rfl | hv
      · exact class_key k _ n s x1 (by omega)
      · exact class_keys ks _ n s x2 (by omega) v hv
end
mutual
theorem hash_key : ∀ (k : NestedKey) (v : Value) (n : Nat) (s : Shared), NestedIs s.heap k v → k.depth ≤ n → plK k = true → Ans P w s (hashByValue n v) true
  | .none, _, n, s, x, _, _ => by cases x; cases n <;> exact .val
  | .num i, _, n, s, x, _, _ => by cases x <;> cases n <;> exact .val
  | .text y, _, n, s, x, _, hp => by cases hp
  | .tup ks, _, 0, s, x, hn, _ => by simp only [NestedKey.depth] at hn; omega
  | .tup ks, _, n + 1, s, x, hn, hp => by
    cases x with
    | tup h1 h2 h3 h4 =>
      simp only [NestedKey.depth] at hn
      exact hash_tup h1 h2 h3 (hash_keys ks _ n s h4 (by omega) hp)
theorem hash_keys : ∀ (ks : List NestedKey) (vs : List Value) (n : Nat) (s : Shared), NestedAll s.heap ks vs → NestedKey.depthAll ks ≤ n → plKs ks = true → ∀ v ∈ vs, Ans P w s (hashByValue n v) true
  | [], _, _, _, x, _, _, v, hv => by cases x; cases hv
  | k :: ks, _, n, s, x, hn, hp, v, hv => by
    cases x with
    | cons x1 x2 =>
      simp only [NestedKey.depthAll] at hn
      simp only [plKs, Bool.and_eq_true] at hp
      rcases List.mem_cons.mp hv with rfl | hv
      · exact hash_key k _ n s x1 (by omega) hp.1
      · exact hash_keys ks _ n s x2 (by omega) hp.2 v hv
end
/-- the address a is that of the key k, a tuple of numbers and such -/
structure KA (h : Heap) (k : NestedKey) (a : Addr) : Prop where
  is : NestedIs h k (.ref a)
  dep : k.depth ≤ 8
  pl : plK k = true
theorem KA.keep {h h' : Heap} {k : NestedKey} {a : Addr} (x : KA h k a) (hk : ∀ b o vs n, h.get? b = some o → o.data = .seq vs n → h'.get? b = some o) : KA h' k a := ⟨NestedIs.at hk _ _ x.is, x.dep, x.pl⟩
theorem KA.up {h h' : Heap} {k : NestedKey} {a : Addr} (x : KA h k a) (hk : ∀ b o, h.get? b = some o → h'.get? b = some o) : KA h' k a := x.keep fun b o _ _ e _ => hk b o e
theorem KA.inj {h : Heap} {k l : NestedKey} {a : Addr} (x : KA h k a) (y : KA h l a) : k = l := NestedIs.inj _ _ _ x.is y.is
theorem KA.same {h h' : Heap} {k : NestedKey} {a b : Addr} {o : Obj} {es : Array (Int × Value)} {ep : Nat} {t : SetTable} (x : KA h k b) (ho : h.get? a = some o) (hd : o.data = .set es ep t) (hs : Heap.SameBut a h h') : KA h' k b :=
  x.keep fun c u vs n e q => (hs.2 c fun z => by
    subst z
    rw [ho] at e
    cases e
    rw [hd] at q
    cases q).trans e
theorem KA.kind {P : Program} {w : World} {h : Heap} {k : NestedKey} {a : Addr} (x : KA h k a) : (nestedKind P w).is h k a := ⟨x.is, x.dep⟩
/-- searching among such shows nothing -/
theorem seen_no {s : Shared} {k : NestedKey} {b : Addr} (x : KA s.heap k b) {ys : List Value} (hy : ∀ y ∈ ys, ∃ l c, y = Value.ref c ∧ KA s.heap l c) : Ans P w s (searchCouldBeSeen (.ref b) ys) false := fun A E Q q => by
  unfold searchCouldBeSeen
  refine wpAny_bind ?_
  refine wpAny_forIn_list _ (fun rest z s' => z = (none, PUnit.unit) ∧ s' = s ∧ ∀ y ∈ rest, ∃ l c, y = Value.ref c ∧ KA s.heap l c) _ ?_ ?_ _ _ ⟨rfl, rfl, hy⟩
  · rintro v rest z s' ⟨rfl, rfl, h⟩
    obtain ⟨l, c, rfl, y⟩ := h v List.mem_cons_self
    have fin : ((none, PUnit.unit) : Option Bool × PUnit) = (none, PUnit.unit) ∧ s' = s' ∧ ∀ y ∈ rest, ∃ l c, y = Value.ref c ∧ KA s'.heap l c := ⟨rfl, rfl, fun u hu => h u (List.mem_cons_of_mem _ hu)⟩
    dsimp only
    by_cases hv : (b == c || (carriedByValue (.ref b) && carriedByValue (.ref c))) = true
    · exact wp_if_pos hv (wpAny_pure fin)
    · refine wp_if_neg hv ?_
      refine wpAny_bind ((nestedKind P w).quiet x.kind ?_)
      simp only [Bool.not_true, Bool.false_eq_true, if_false]
      refine wpAny_bind ((nestedKind P w).quiet y.kind ?_)
      simp only [Bool.not_true, Bool.false_eq_true, if_false]
      refine wpAny_bind (class_key _ _ 8 _ x.is x.dep _ _ _ ?_)
      simp only [Bool.false_eq_true, if_false]
      refine wpAny_bind (class_key _ _ 8 _ y.is y.dep _ _ _ ?_)
      simp only [Bool.false_eq_true, if_false]
      exact wpAny_pure fin
  · rintro z s' ⟨rfl, rfl, _⟩
    exact wpAny_pure q

/-! ### the set -/
abbrev AK := List (Addr × NestedKey)
def rws (w : World) (L : AK) : List (Int × Value) := L.map fun p => (p.2.hash w, Value.ref p.1)
structure SetN (w : World) (h : Heap) (a : Addr) (L : AK) (es : Array (Int × Value)) (ep : Nat) (t : SetTable) : Prop where
  ob : ∃ o, h.get? a = some o ∧ o.ExactSet ∧ o.data = .set es ep t
  rows : es.toList = rws w L
  tab : Tab t (L.map fun p => p.2.hash w)
  nd : (L.map (·.2)).Nodup
  kys : ∀ p ∈ L, KA h p.2 p.1
  plain : t.plain = true
  led : w.params.followText "set-order" = true ∨ t.led = true
  room : L.length * 5 < t.mask * 3
  few : L.length ≤ 250
  msk : t.mask = 7 ∨ t.mask = 31 ∨ t.mask = 127 ∨ t.mask = 511
section
variable {h : Heap} {a : Addr} {L : AK} {es : Array (Int × Value)} {ep : Nat} {t : SetTable}
theorem rws_len (L : AK) : (rws w L).length = L.length := List.length_map ..
theorem SetN.len (R : SetN w h a L es ep t) : es.size = L.length := by
  rw [← Array.length_toList, R.rows, rws_len]
theorem SetN.plen (R : SetN w h a L es ep t) : t.place.toList.length = L.length := by rw [R.tab.sz, List.length_map]
theorem SetN.fits (R : SetN w h a L es ep t) : t.fits es.size = true := by
  have h1 := R.plen
  have h2 := R.room
  have h3 := R.tab.dm
  rw [Array.length_toList] at h1
  unfold SetTable.fits SetTable.fill
  rw [h3, R.len, h1, Bool.and_eq_true]
  refine ⟨beq_self_eq_true _, decide_eq_true ?_⟩
  show L.length + 0 ≤ t.mask
  omega
theorem SetN.ent (R : SetN w h a L es ep t) {i : Nat} {p : Addr × NestedKey} (e : L[i]? = some p) : es[i]? = some (p.2.hash w, Value.ref p.1) := by
  rw [← Array.getElem?_toList, R.rows]
  unfold rws
  rw [List.getElem?_map, e]
  rfl
theorem SetN.gw (R : SetN w h a L es ep t) : ¬ t.gaveWay = true := by
  unfold SetTable.gaveWay
  rw [R.tab.msk.odd]
  decide
end
/-- the c-th step of the way of the hash g -/
abbrev stp (m : Nat) (g : Int) (c : Nat) : SetTable.Probe := nth m (runAt m (SetTable.bits g % (m + 1)) (SetTable.bits g)) c
theorem stp_dm (m : Nat) (g : Int) (c : Nat) : (stp m g c).dummy = none := by
  have : ∀ (n : Nat) (p : SetTable.Probe), p.dummy = none → (nth m p n).dummy = none := by
    intro n
    induction n with
    | zero => exact fun p h => h
    | succ n ih =>
      intro p h
      refine ih _ ?_
      unfold adv
      split <;> exact h
  exact this c _ rfl
theorem stp_add (m : Nat) (g : Int) (c q : Nat) : nth m (stp m g c) q = stp m g (c + q) := (nth_add m c _ q).symm
variable {a : Addr} {L : AK} {es : Array (Int × Value)} {ep : Nat} {t : SetTable} {s : Shared} {A : Around} {E : Value → Shared → Prop}
theorem find_from (R : SetN w s.heap a L es ep t) {x : Addr} {k : NestedKey} (hx : KA s.heap k x) (hu : A.units + 8 < cLine) {g : Int} (hg : g = k.hash w) {K : Nat} (hKf : K < 10 * SetTable.turns t.mask)
    (hK : way t.mask g K ∉ t.place.toList) (hKb : ∀ c, c < K → way t.mask g c ∈ t.place.toList) {Q : SetFound → Shared → Prop}
    (hin : k ∈ L.map (·.2) → Q (.there none) s) (hout : k ∉ L.map (·.2) → Q (.free (way t.mask g K) false) s) :
    ∀ (f c : Nat) (stand : Option SetTable.Probe), stand.getD (t.probeStart g) = stp t.mask g c → c ≤ K → K - c < f →
      (∀ (i : Nat) p, L[i]? = some p → p.2 = k → ∃ c', c ≤ c' ∧ c' < K ∧ t.place.toList[i]? = some (way t.mask g c')) →
      wpAny (model P w) A (setSearchFrom a (.ref x) g true f stand) Q E s
  | 0, c, stand, _, _, hf, _ => absurd hf (Nat.not_lt_zero _)
  | f + 1, c, stand, hst, hc, hf, hre => by
    obtain ⟨o, ho, hex, hd⟩ := R.ob
    rw [setSearchFrom_succ]
    refine wpAny_bind (wpAny_setState_of ho hd R.fits ?_)
    dsimp only
    refine wp_if_neg R.gw ?_
    have hw : ∀ q, (nth t.mask (stp t.mask g c) q).j = way t.mask g (c + q) := fun q => congrArg SetTable.Probe.j (stp_add t.mask g c q)
    have hKc : c + (K - c) = K := by omega
    have hsh : ∀ (i : Nat) p, L[i]? = some p → (es[i]?.map (·.1)).getD 0 = p.2.hash w := fun i p e => by rw [R.ent e]; rfl
    have spec := go_spec t R.tab.ris R.tab.dm (fun i => (es[i]?.map (·.1)).getD 0) g (10 * SetTable.turns t.mask) (K - c) _ (stp_dm t.mask g c) (by omega)
      (fun q hq => by rw [hw]; exact hKb _ (by omega)) (by rw [hw, hKc]; exact hK)
    rcases spec with ⟨q, i, hq, hi, hh, hno, hpr⟩ | ⟨hno, hpr⟩
    · rw [stp_add, stp_add] at hpr
      rw [hw] at hi
      have hpr' : t.probe (fun i => (es[i]?.map (·.1)).getD 0) g (stand.getD (t.probeStart g)) = some (.candidate (way t.mask g (c + q)) i (stp t.mask g (c + (q + 1)))) := by
        rw [hst]
        exact hpr
      rw [hpr']
      dsimp only
      have hil : i < L.length := by
        have := getElem?_lt hi
        rw [R.plen] at this
        exact this
      obtain ⟨p, hp⟩ : ∃ p, L[i]? = some p := ⟨_, List.getElem?_eq_getElem hil⟩
      have hm : p ∈ L := List.mem_of_getElem? hp
      have rest : wpAny (model P w) A (searchRest a (.ref x) g true f es t (way t.mask g (c + q)) i (stp t.mask g (c + (q + 1)))) Q E s := by
        unfold searchRest
        rw [R.ent hp]
        dsimp only
        refine wpAny_bind (wpAny_holding ((nestedKind P w).eqBool hu (R.kys p hm).kind hx.kind ?_))
        refine wpAny_bind (wpAny_setState_of ho hd R.fits ?_)
        dsimp only
        by_cases hkk : p.2 = k
        · refine wp_if_pos (by simp [hkk]) (wpAny_pure (hin ?_))
          exact List.mem_map.mpr ⟨p, hm, hkk⟩
        · refine wp_if_neg (by simp [hkk]) ?_
          rw [sameMem]
          dsimp only
          have hsl : t.slot (way t.mask g (c + q)) = .live i := slot_live R.tab.ris hi
          simp only [if_true, hsl, R.ent hp]
          refine wpAny_bind (wpAny_isSame_ref_self (wpAny_bind (wpAny_pure ?_)))
          simp only [if_true]
          refine wp_if_neg (by simp [hkk]) ?_
          refine find_from R hx hu hg hKf hK hKb hin hout f (c + (q + 1)) _ rfl (by omega) (by omega) fun i0 p0 h0 hk0 => ?_
          obtain ⟨c', b1, b2, b3⟩ := hre i0 p0 h0 hk0
          refine ⟨c', ?_, b2, b3⟩
          have hg0 : (es[i0]?.map (·.1)).getD 0 = g := by rw [hsh i0 p0 h0, hk0, hg]
          suffices hnot : ¬ c' ≤ c + q by omega
          intro hle
          rcases Nat.lt_or_eq_of_le hle with z | z
          · refine hno (c' - c) i0 (by omega) ?_ hg0
            rw [hw, show c + (c' - c) = c' by omega]
            exact b3
          · rw [z] at b3
            have s0 := slot_live R.tab.ris b3
            rw [hsl] at s0
            cases s0
            rw [hp] at h0
            cases h0
            exact hkk hk0
      by_cases hl : t.led = true
      · exact wp_if_neg (by simp [hl]) rest
      · refine wp_if_pos (by simp [hl]) ?_
        refine wpAny_bind (seen_no hx (fun y hy => ?_) _ _ _ ?_)
        · obtain ⟨e, he, rfl⟩ := List.mem_map.mp hy
          have he1 : e ∈ es.toList := by
            have : e ∈ es ∧ e.1 = g := by simpa using he
            simpa using this.1
          rw [R.rows] at he1
          obtain ⟨p2, hp2, rfl⟩ := List.mem_map.mp he1
          exact ⟨_, _, rfl, R.kys p2 hp2⟩
        · exact wp_if_neg (by decide) rest
    · rw [hw, hKc] at hpr
      have hpr' : t.probe (fun i => (es[i]?.map (·.1)).getD 0) g (stand.getD (t.probeStart g)) = some (.empty (way t.mask g K) none) := by
        rw [hst]
        exact hpr
      rw [hpr']
      dsimp only
      refine wpAny_pure (hout fun hm => ?_)
      obtain ⟨p0, h0, hk0⟩ := List.mem_map.mp hm
      obtain ⟨i0, hi0⟩ := List.mem_iff_getElem?.mp h0
      obtain ⟨c', b1, b2, b3⟩ := hre i0 p0 hi0 hk0
      refine hno (c' - c) i0 (by omega) ?_ ?_
      · rw [hw, show c + (c' - c) = c' by omega]
        exact b3
      · show (es[i0]?.map (·.1)).getD 0 = g
        rw [hsh i0 p0 hi0, hk0, hg]
theorem find_at (R : SetN w s.heap a L es ep t) {x : Addr} {k : NestedKey} (hx : KA s.heap k x) (hu : A.units + 8 < cLine) {Q : SetFound → Shared → Prop}
    (hin : k ∈ L.map (·.2) → Q (.there none) s)
    (hout : ∀ K, k ∉ L.map (·.2) → way t.mask (k.hash w) K ∉ t.place.toList → (∀ c, c < K → way t.mask (k.hash w) c ∈ t.place.toList) → Q (.free (way t.mask (k.hash w) K) false) s) :
    wpAny (model P w) A (setSearch a (.ref x) (k.hash w) true) Q E s := by
  have hroom := R.room
  obtain ⟨K, k1, k2, k3⟩ := R.tab.free (by rw [List.length_map]; omega) (k.hash w)
  have hbig : K < 100000 := by
    have h1 : 10 * SetTable.turns t.mask = 10 * (t.mask + 15) := rfl
    have h2 := R.tab.msk.big
    omega
  unfold setSearch
  refine find_from R hx hu rfl k1 k2 k3 hin (fun z => hout K z k2 k3) 100000 0 none rfl (Nat.zero_le _) (by omega) fun i p hp hk => ?_
  have hi : (L.map fun p => p.2.hash w)[i]? = some (k.hash w) := by rw [List.getElem?_map, hp, ← hk]; rfl
  have hil : i < t.place.toList.length := by rw [R.plen]; exact getElem?_lt hp
  obtain ⟨c, c1, c2⟩ := R.tab.ahead k2 hi (List.getElem?_eq_getElem hil)
  exact ⟨c, Nat.zero_le _, c1, by rw [List.getElem?_eq_getElem hil, c2]⟩
end
end G
set_option Elab.async false
set_option linter.all false
set_option maxRecDepth 100000
set_option maxHeartbeats 4000000
namespace G
open PySem PySem.Spec PyProof.Rows L2
section
variable {P : Program} {w : World} {a : Addr} {L : AK} {es : Array (Int × Value)} {ep : Nat} {t : SetTable} {s : Shared} {A : Around} {E : Value → Shared → Prop}
/-- the entries taken in another order -/
theorem reorder {order : Array Nat} (hr : es.toList = rws w L) (hp : order.toList.Perm (List.range L.length)) :
    ∃ L2 : AK, (order.filterMap (es[·]?)).toList = rws w L2 ∧ L2.Perm L ∧ (L2.map fun p => p.2.hash w) = order.toList.map fun i => (es.map (·.1)).getD i 0 := by
  have hent : ∀ i, es[i]? = (L[i]?).map fun (p : Addr × NestedKey) => (p.2.hash w, Value.ref p.1) := fun i => by
    rw [← Array.getElem?_toList, hr]
    unfold rws
    rw [List.getElem?_map]
  have walk : ∀ l : List Nat, (∀ i ∈ l, i < L.length) → l.filterMap (fun i => es[i]?) = rws w (l.filterMap fun i => L[i]?) ∧ ((l.filterMap fun i => L[i]?).map fun p => p.2.hash w) = l.map fun i => (es.map (·.1)).getD i 0 := by
    intro l
    induction l with
    | nil => exact fun _ => ⟨rfl, rfl⟩
    | cons i l ih =>
      intro h
      have hi := h i List.mem_cons_self
      obtain ⟨e1, e2⟩ := ih fun j hj => h j (List.mem_cons_of_mem _ hj)
      have e3 : L[i]? = some L[i] := List.getElem?_eq_getElem hi
      have e4 := hent i
      rw [e3] at e4
      have e4' : es[i]? = some (L[i].2.hash w, Value.ref L[i].1) := e4
      have e5 : (es.map (·.1)).getD i 0 = L[i].2.hash w := by
        rw [Array.getD_eq_getD_getElem?, Array.getElem?_map, e4']
        rfl
      rw [List.filterMap_cons_some e4', List.filterMap_cons_some e3, e1, List.map_cons, List.map_cons, e2, e5]
      exact ⟨rfl, rfl⟩
  obtain ⟨e1, e2⟩ := walk order.toList fun i hi => List.mem_range.mp (hp.mem_iff.mp hi)
  have all : ∀ n, n ≤ L.length → (List.range n).filterMap (fun i => L[i]?) = L.take n := by
    intro n
    induction n with
    | zero => intro _; rfl
    | succ n ih =>
      intro hn
      rw [List.range_succ, List.filterMap_append, ih (by omega), List.take_add_one, List.getElem?_eq_getElem hn, List.filterMap_cons_some (List.getElem?_eq_getElem hn)]
      rfl
  refine ⟨_, by rw [Array.toList_filterMap]; exact e1, ?_, e2⟩
  have hq := hp.filterMap fun i => L[i]?
  rw [all _ (Nat.le_refl _), List.take_length] at hq
  exact hq
theorem lay_more {o : Obj} (ho : s.heap.get? a = some o) (hex : o.ExactSet) (hd : o.data = .set es ep t) (hr : es.toList = rws w L) (hsz : t.place.size = es.size) (hdm : t.dummies = #[]) (hfl : es.size ≤ t.mask)
    (nd : (L.map (·.2)).Nodup) (ks : ∀ p ∈ L, KA s.heap p.2 p.1) (pl : t.plain = true) (ld : w.params.followText "set-order" = true ∨ t.led = true) (few : L.length ≤ 250) {wanted m : Nat}
    (hw : SetTable.sizeAbove wanted = m + 1) (M : Mk m) (ms : m = 7 ∨ m = 31 ∨ m = 127 ∨ m = 511) (hn : L.length * 5 < m * 3) {Q : Unit → Shared → Prop}
    (hQ : ∀ h' L' es' ep' t', Heap.SameBut a s.heap h' → SetN w h' a L' es' ep' t' → L'.Perm L → Q () { s with heap := h' }) : wpAny (model P w) A (setRelay a wanted) Q E s := by
  have hsl : es.size = L.length := by rw [← Array.length_toList, hr, rws_len]
  have hfits : t.fits es.size = true := by
    unfold SetTable.fits SetTable.fill
    rw [hdm, Bool.and_eq_true, hsz]
    exact ⟨beq_self_eq_true _, decide_eq_true hfl⟩
  obtain ⟨t', order, e, hp, T, em, el, epl⟩ := relaid_tab t (hs := es.map (·.1)) (wanted := wanted) (m := m) (by rw [hw]; rfl) M (by rw [Array.size_map, hsl]; omega)
  rw [Array.size_map, hsl] at hp
  obtain ⟨L2, r1, r2, r3⟩ := reorder hr hp
  rw [← r3] at T
  have hs2 : (order.filterMap (es[·]?)).size = es.size := by rw [← Array.length_toList, r1, rws_len, r2.length_eq, hsl]
  have hm := M.big
  rw [setRelay_eq]
  refine wpAny_bind (wpAny_setState_of ho hd hfits ?_)
  dsimp only
  refine wp_if_neg (by rw [hw, sizeLine_eq]; omega) ?_
  rw [e]
  dsimp only
  refine wpAny_bind (wp_if_neg (by rw [hs2]; simp) (wpAny_pure ?_))
  dsimp only
  refine wpAny_storeSet_of ho hd ?_ (by rw [hs2, hsl, sizeLine_eq]; omega)
  have sb : Heap.SameBut a s.heap (s.heap.update a (Obj.putSet (order.filterMap (es[·]?)) t')) := Heap.SameBut.update ..
  refine hQ _ L2 _ (ep + 1) t' sb ⟨⟨_, store_at ho hd, hex, rfl⟩, r1, T, (r2.map (·.2)).nodup_iff.mpr nd, fun p hpm => (ks p (r2.mem_iff.mp hpm)).same ho hd sb, epl.trans pl, ?_, ?_, by rw [r2.length_eq]; exact few, by rw [em]; exact ms⟩ r2
  · rw [el]
    exact ld
  · rw [r2.length_eq, em]
    exact hn
theorem rws_ins (L : AK) (p : Nat) (x : Addr) (k : NestedKey) : rws w (L.take p ++ (x, k) :: L.drop p) = (rws w L).take p ++ (k.hash w, Value.ref x) :: (rws w L).drop p := by
  unfold rws
  rw [List.map_append, List.map_take, List.map_cons, List.map_drop]
/-- s.add(x) -/
theorem put_at (R : SetN w s.heap a L es ep t) {x : Addr} {k : NestedKey} (hx : KA s.heap k x) (hu : A.units + 8 < cLine) (hfew : L.length < 250) {Q : Bool → Shared → Prop}
    (hQ : ∀ b h' L' es' ep' t', Heap.SameBut a s.heap h' → SetN w h' a L' es' ep' t' → (k ∈ L.map (·.2) → L' = L) → (k ∉ L.map (·.2) → L'.Perm ((x, k) :: L)) → Q b { s with heap := h' }) :
    wpAny (model P w) A (setAddHashed a (.ref x) (k.hash w)) Q E s := by
  obtain ⟨o, ho, hex, hd⟩ := R.ob
  have hroom := R.room
  unfold setAddHashed
  refine wpAny_holding ?_
  rw [show (100000 : Nat) = 99999 + 1 from rfl, setAddHashedIn_succ]
  refine wpAny_bind (wpAny_setState_of ho hd R.fits ?_)
  dsimp only
  refine wp_if_neg (by simp [byScan, Value.scannable]) ?_
  refine wpAny_bind (find_at R hx hu (fun hm => wpAny_pure (hQ false s.heap L es ep t (Heap.SameBut.refl a s.heap) R (fun _ => rfl) fun z => absurd hm z)) fun K hm hK hb => ?_)
  dsimp only
  refine wpAny_bind (wpAny_setState_of ho hd R.fits ?_)
  dsimp only
  generalize hj : way t.mask (k.hash w) K = j
  generalize hp : SetTable.below t.place j = p
  obtain ⟨q1, q2⟩ := R.tab.put hK hb hj.symm hp.symm
  have f2 : (t.put j).2 = p := hp
  have f3 : (t.put j).1.mask = t.mask := rfl
  have f4 : (t.put j).1.led = t.led := rfl
  have f5 : (t.put j).1.plain = true := R.plain
  generalize t.put j = pt at q2 f2 f3 f4 f5 ⊢
  obtain ⟨t1, p'⟩ := pt
  dsimp only at q2 f2 f3 f4 f5 ⊢
  subst f2
  refine wp_if_pos f5 (wpAny_bind (hash_key _ _ 8 _ hx.is hx.dep hx.pl _ _ _ ?_))
  simp only [if_true]
  have e1 : (SetTable.insertAt es p' (k.hash w, Value.ref x)).toList = rws w (L.take p' ++ (x, k) :: L.drop p') := by rw [SetTable.toList_insertAt, rws_ins, R.rows]
  have pm := put_perm L p' (x, k)
  have e2 : (L.take p' ++ (x, k) :: L.drop p').map (fun p => p.2.hash w) = (L.map fun p => p.2.hash w).take p' ++ k.hash w :: (L.map fun p => p.2.hash w).drop p' := by
    rw [List.map_append, List.map_take, List.map_cons, List.map_drop]
  rw [← e2] at q2
  generalize SetTable.insertAt es p' (k.hash w, Value.ref x) = es1 at e1 ⊢
  generalize L.take p' ++ (x, k) :: L.drop p' = L1 at pm q2 e1
  have hlen : L1.length = L.length + 1 := pm.length_eq
  have hes : es1.size = L.length + 1 := by rw [← Array.length_toList, e1, rws_len, hlen]
  have nd1 : (L1.map (·.2)).Nodup := (pm.map (·.2)).nodup_iff.mpr (by rw [List.map_cons, List.nodup_cons]; exact ⟨hm, R.nd⟩)
  refine wpAny_bind (wpAny_storeSet_of ho hd ?_ (by rw [hes, sizeLine_eq]; omega))
  have sb : Heap.SameBut a s.heap (s.heap.update a (Obj.putSet es1 t1)) := Heap.SameBut.update ..
  have ho1 := store_at (es' := es1) (t' := t1) ho hd
  generalize s.heap.update a (Obj.putSet es1 t1) = h1 at sb ho1 ⊢
  have ks1 : ∀ p ∈ L1, KA h1 p.2 p.1 := fun p hp => by
    rcases List.mem_cons.mp (pm.mem_iff.mp hp) with rfl | hp
    · exact hx.same ho hd sb
    · exact (R.kys p hp).same ho hd sb
  have ld1 : w.params.followText "set-order" = true ∨ t1.led = true := by rw [f4]; exact R.led
  have psz : t1.place.toList.length = L.length + 1 := by rw [q2.sz, List.length_map, hlen]
  have fil : t1.fill = L.length + 1 := by
    unfold SetTable.fill
    rw [q2.dm, ← Array.length_toList, psz]
    rfl
  have htf : t1.tooFull = decide ((L.length + 1) * 5 ≥ t.mask * 3) := by
    unfold SetTable.tooFull
    rw [fil, f3]
  by_cases hf : (L.length + 1) * 5 ≥ t.mask * 3
  · have htf' : (!false && t1.tooFull) = true := by rw [htf, decide_eq_true hf]; rfl
    refine wp_if_pos htf' (wpAny_bind ?_)
    rw [R.len]
    have fin : ∀ m, SetTable.sizeAbove (SetTable.grown (L.length + 1)) = m + 1 → Mk m → (m = 7 ∨ m = 31 ∨ m = 127 ∨ m = 511) → (L.length + 1) * 5 < m * 3 → wpAny (model P w) A (setRelay a (SetTable.grown (L.length + 1))) (fun _ s' => wpAny (model P w) A (pure true) Q E s') E { s with heap := h1 } := fun m g1 g2 g4 g3 =>
      lay_more (s := { s with heap := h1 }) ho1 hex rfl e1 (by rw [← Array.length_toList, psz, hes]) q2.dm (by rw [hes, f3]; omega) nd1 ks1 f5 ld1 (by omega) g1 g2 g4 (by rw [hlen]; exact g3) fun h2 L2 es2 ep2 t2 sb2 R2 pm2 =>
        wpAny_pure (hQ true h2 L2 es2 ep2 t2 (sb.trans sb2) R2 (fun z => absurd z hm) fun _ => pm2.trans pm)
    have hms : (t.mask = 7 ∨ t.mask = 31 ∨ t.mask = 127 ∨ t.mask = 511) := R.msk
    rcases hms with e | e | e | e
    · have e3 : L.length = 4 := by rw [e] at hf hroom; omega
      exact fin 31 (by rw [e3]; exact grow5) mk31 (.inr (.inl rfl)) (by omega)
    · have e3 : L.length = 18 := by rw [e] at hf hroom; omega
      exact fin 127 (by rw [e3]; exact grow19) mk127 (.inr (.inr (.inl rfl))) (by omega)
    · have e3 : L.length = 76 := by rw [e] at hf hroom; omega
      exact fin 511 (by rw [e3]; exact grow77) mk511 (.inr (.inr (.inr rfl))) (by omega)
    · rw [e] at hf
      omega
  · have htf' : ¬ (!false && t1.tooFull) = true := by rw [htf, decide_eq_false hf]; decide
    refine wp_if_neg htf' ?_
    refine wpAny_pure (hQ true h1 L1 es1 (ep + 1) t1 sb ⟨⟨_, ho1, hex, rfl⟩, e1, q2, nd1, ks1, f5, ld1, by rw [hlen, f3]; omega, by omega, by rw [f3]; exact R.msk⟩ (fun z => absurd z hm) fun _ => pm)
end
end G
set_option Elab.async false
set_option linter.all false
set_option maxRecDepth 100000
set_option maxHeartbeats 4000000
namespace G
open PySem PySem.Spec PyProof.Rows L2
/-- the first i of ks are in, and no others -/
structure Has (ks : AK) (i : Nat) (L : AK) : Prop where
  sub : ∀ p ∈ L, p ∈ ks
  all : ∀ p ∈ ks.take i, p.2 ∈ L.map (·.2)
  len : L.length ≤ i
theorem Has.next {ks L L' : AK} {i : Nat} {x : Addr × NestedKey} (g : Has ks i L) (h : ks[i]? = some x) (c1 : x.2 ∈ L.map (·.2) → L' = L) (c2 : x.2 ∉ L.map (·.2) → L'.Perm (x :: L)) : Has ks (i + 1) L' := by
  have ht : ks.take (i + 1) = ks.take i ++ [x] := by rw [List.take_add_one, h]; rfl
  by_cases c : x.2 ∈ L.map (·.2)
  · rw [c1 c]
    refine ⟨g.sub, fun p hp => ?_, Nat.le_succ_of_le g.len⟩
    rw [ht] at hp
    rcases List.mem_append.mp hp with z | z
    · exact g.all p z
    · rw [List.mem_singleton.mp z]; exact c
  · have pm := c2 c
    refine ⟨fun p hp => ?_, fun p hp => ?_, ?_⟩
    · rcases List.mem_cons.mp (pm.mem_iff.mp hp) with rfl | z
      · exact List.mem_of_getElem? h
      · exact g.sub p z
    · refine (pm.map (·.2)).mem_iff.mpr ?_
      rw [List.map_cons]
      rw [ht] at hp
      rcases List.mem_append.mp hp with z | z
      · exact List.mem_cons_of_mem _ (g.all p z)
      · rw [List.mem_singleton.mp z]; exact List.mem_cons_self
    · have := pm.length_eq
      have := g.len
      rw [List.length_cons] at *
      omega
section
variable {P : Program} {w : World} {A : Around} {E : Value → Shared → Prop} {s : Shared}
theorem SetN.up {h h' : Heap} {a : Addr} {L : AK} {es : Array (Int × Value)} {ep : Nat} {t : SetTable} (R : SetN w h a L es ep t) (ha : ∀ o, h.get? a = some o → h'.get? a = some o) (hk : ∀ p ∈ L, KA h' p.2 p.1) : SetN w h' a L es ep t := by
  obtain ⟨o, ho, r⟩ := R.ob
  exact ⟨⟨o, ha o ho, r⟩, R.rows, R.tab, R.nd, hk, R.plain, R.led, R.room, R.few, R.msk⟩
/-- the new set's object -/
abbrev newSet (w : World) : Obj := { cls := .type "set", dict := none, data := .set #[] 0 (.fresh 0 0 (!w.params.followText "set-order")) }
theorem setN_new {h : Heap} {a : Addr} (ho : h.get? a = some (newSet w)) : SetN w h a [] #[] 0 (.fresh 0 0 (!w.params.followText "set-order")) where
  ob := ⟨_, ho, ⟨rfl, rfl, rfl⟩, rfl⟩
  rows := rfl
  tab := ⟨List.Pairwise.nil, rfl, rfl, mk7, fun x hx => (nomatch hx), fun i h j hi => (by rw [List.map_nil, List.getElem?_nil] at hi; cases hi)⟩
  nd := List.nodup_nil
  kys := fun p hp => nomatch hp
  plain := rfl
  led := by
    show _ ∨ (!w.params.followText "set-order") = true
    cases w.params.followText "set-order" with
    | true => exact .inl rfl
    | false => exact .inr rfl
  room := by show 0 * 5 < 7 * 3; decide
  few := Nat.zero_le _
  msk := .inl rfl
theorem fill_set {I : Addr} {fp wr : List Addr} {G : Array GenState → Array GenState → Prop} {n : Nat} {Pv : Nat → Value → Prop} {St : Nat → Shared → Prop} {R : Result → Shared → Prop}
    (W : WalksS P w A.in1 I fp wr G n Pv St) (S : Addr) (hSf : S ∉ fp) (ks : AK) (hn : n = ks.length) (hfew : ks.length ≤ 250) (hval : ∀ i v, Pv i v → ∃ p, ks[i]? = some p ∧ v = .ref p.1)
    (h0 : Heap) (hk : ∀ p ∈ ks, KA h0 p.2 p.1) (hS0 : h0.get? S = none) (hw0 : ∀ b ∈ wr, h0.get? b = none) (hu : A.in1.units + 8 < cLine) :
    ∀ (k i : Nat) (s : Shared), n - i = k → i ≤ n → St i s → (∀ b o, h0.get? b = some o → s.heap.get? b = some o) → (∃ L es ep t, SetN w s.heap S L es ep t ∧ Has ks i L) →
      (∀ s' L es ep t, Moved (S :: wr) G s s' → SetN w s'.heap S L es ep t → Has ks n L → (∀ b o, h0.get? b = some o → s'.heap.get? b = some o) → R (.ok (.ret .none)) s') →
      codeAny (model P w) A (.builtin "set.update.loop" ⟨[.ref S, .ref I], []⟩) R s := by
  have hSw : S ∉ wr := fun z => hSf (W.sub _ z)
  have wide : ∀ b ∈ wr, b ∈ S :: wr := fun b hb => List.mem_cons_of_mem _ hb
  have kept : ∀ {s s' : Shared}, Moved wr G s s' → (∀ b o, h0.get? b = some o → s.heap.get? b = some o) → ∀ b o, h0.get? b = some o → s'.heap.get? b = some o := fun mv old b o e =>
    mv.heap b o (fun hb => by rw [hw0 b hb] at e; cases e) (old b o e)
  have stay : ∀ {s s' : Shared} {L : AK} {es ep t i}, Moved wr G s s' → (∀ b o, h0.get? b = some o → s'.heap.get? b = some o) → Has ks i L → SetN w s.heap S L es ep t → SetN w s'.heap S L es ep t := fun mv old g R =>
    R.up (fun o e => mv.heap S o hSw e) fun p hp => (hk p (g.sub p hp)).up old
  intro k
  induction k with
  | zero =>
    intro i s hki hi hst old ⟨L, es, ep, t, hS, g⟩ hR
    obtain rfl : i = n := by omega
    refine codeAny_builtin F.entry_set_update_loop ?_
    rw [Around.under_plainId F.plain_set_update_loop _]
    show wpAny _ A.in1 (pyNext (.ref I) >>= _) _ _ s
    refine wpAny_bind (W.done s _ _ hst fun s' mv => ?_)
    have old' := kept mv old
    exact wpAny_pure (hR s' L es ep t (mv.mono wide) (stay mv old' g hS) g old')
  | succ k ih =>
    intro i s hki hi hst old ⟨L, es, ep, t, hS, g⟩ hR
    have hlt : i < n := by omega
    refine codeAny_builtin F.entry_set_update_loop ?_
    rw [Around.under_plainId F.plain_set_update_loop _]
    show wpAny _ A.in1 (pyNext (.ref I) >>= _) _ _ s
    refine wpAny_bind (W.item i s _ _ hlt hst fun v s' hP hst' mv => ?_)
    obtain ⟨p, hp, rfl⟩ := hval i v hP
    have old' := kept mv old
    have hx : KA s'.heap p.2 p.1 := (hk p (List.mem_of_getElem? hp)).up old'
    show wpAny _ A.in1 (holding [Value.ref p.1] (setAdd S (.ref p.1)) >>= _) _ _ s'
    refine wpAny_bind (wpAny_holding ?_)
    unfold setAdd
    refine wpAny_holding (wpAny_bind ((nestedKind P w).pyHash hu hx.kind ?_))
    refine put_at (s := { s' with toks := s'.toks + p.2.draws }) (stay (s' := s') mv old' g hS) hx hu (by have := g.len; omega) fun b h' L' es' ep' t' sb R' c1 c2 => ?_
    have g' := g.next hp c1 c2
    have old2 : ∀ b o, h0.get? b = some o → h'.get? b = some o := fun b o e => (sb.2 b fun z => by rw [z, hS0] at e; cases e).trans (old' b o e)
    refine wpAny_pure ⟨plainId_quiet F.plain_set_update_loop _, ih (i + 1) _ (by omega) hlt (W.frame _ s' _ _ hst' (Nat.le_add_right _ _) fun b hb o e => ?_) old2 ⟨L', es', ep', t', R', g'⟩ fun s2 L2 es2 ep2 t2 mv2 R2 g2 o2 => ?_⟩
    · exact (sb.2 b fun z => hSf (z ▸ hb)).trans e
    · refine hR s2 L2 es2 ep2 t2 (Moved.trans W.gtrans ((mv.mono wide).then_heap (Nat.le_add_right _ _) fun b o hb e => ?_) mv2) R2 g2 o2
      exact (sb.2 b fun z => hb (z ▸ List.mem_cons_self)).trans e
end
end G
set_option Elab.async false
set_option linter.all false
set_option maxRecDepth 100000
set_option maxHeartbeats 4000000
/-! sorted: of lists of outcomes, of sets of them. -/
namespace G
open PySem PySem.Spec PyProof.Rows L2
open Enc (enc)
abbrev Oc1 := List (List Int)
abbrev od (o : Oc1) : PyData := (enc o).data
/-- the order of the outcomes: Python's < of such tuples -/
def ocLe (a b : Oc1) : Bool := PySem.W.dataLe false od a b
def srt (os : List Oc1) : List Oc1 := os.mergeSort ocLe
theorem ints_alike : ∀ is js : List Int, PySem.W.alikeAll (T.datas (is.map enc)) (T.datas (js.map enc)) = true
  | [], _ => by simp [T.datas, PySem.W.alikeAll]
  | _ :: _, [] => by simp [T.datas, PySem.W.alikeAll]
  | i :: is, j :: js => by
    show (PySem.W.alike (.int i) (.int j) && _) = true
    rw [ints_alike is js]
    rfl
theorem oc_alikes : ∀ as bs : Oc1, PySem.W.alikeAll (T.datas (as.map enc)) (T.datas (bs.map enc)) = true
  | [], _ => by simp [T.datas, PySem.W.alikeAll]
  | _ :: _, [] => by simp [T.datas, PySem.W.alikeAll]
  | a :: as, b :: bs => by
    show (PySem.W.alikeAll (T.datas (a.map enc)) (T.datas (b.map enc)) && _) = true
    rw [oc_alikes as bs, ints_alike]
    rfl
theorem oc_alike (a b : Oc1) : PySem.W.alike (od a) (od b) = true := oc_alikes a b
theorem toks_inj {a b : Oc1} (h : PySem.W.keyToks (od a) = PySem.W.keyToks (od b)) : a = b := by
  have q := (PySem.W.toks_eqv _ _ (oc_alike a b)).2
  refine Classical.byContradiction fun hab => ?_
  have he : PyData.eqv (od a) (od b) = false := by rw [Enc.eqv, decide_eq_false hab]
  have h1 := q he [] [.inl 0]
  rw [h, PySem.W.lex_pre, lex_irrefl] at h1
  exact Bool.noConfusion (show true = false from h1)
theorem ocLe_total : PySem.W.TotalLe ocLe := PySem.W.sortLe_total (listOrd itemOrd) false fun o : Oc1 => PySem.W.keyToks (od o)
theorem ocLe_anti {a b : Oc1} (h1 : ocLe a b = true) (h2 : ocLe b a = true) : a = b := by
  have h1' : (!lexLt itemOrd (PySem.W.keyToks (od b)) (PySem.W.keyToks (od a))) = true := h1
  have h2' : (!lexLt itemOrd (PySem.W.keyToks (od a)) (PySem.W.keyToks (od b))) = true := h2
  rw [Bool.not_eq_true'] at h1' h2'
  exact toks_inj (lex_total _ _ h2' h1')
theorem srt_perm (os : List Oc1) : (srt os).Perm os := List.mergeSort_perm _ _
theorem srt_le (os : List Oc1) : (srt os).Pairwise fun a b => ocLe a b = true :=
  List.pairwise_mergeSort ocLe_total.trans (fun a b => by rw [Bool.or_eq_true]; exact ocLe_total.total a b) os
/-- of the same things: the same list -/
theorem srt_eq {as bs : List Oc1} (ha : as.Nodup) (hb : bs.Nodup) (h : ∀ o, o ∈ as ↔ o ∈ bs) : srt as = srt bs := by
  have strict : ∀ os : List Oc1, os.Nodup → (srt os).Pairwise fun a b => ocLe a b = true ∧ a ≠ b := fun os hn => (srt_le os).and ((srt_perm os).nodup_iff.mpr hn)
  refine sorted_uniq (lt := fun a b => ocLe a b = true ∧ a ≠ b) (fun a z => z.2 rfl) (fun a b c h1 h2 => ⟨ocLe_total.trans _ _ _ h1.1 h2.1, fun z => ?_⟩) (strict as ha) (strict bs hb) fun o => ?_
  · subst z
    exact h1.2 (ocLe_anti h1.1 h2.1)
  · rw [(srt_perm as).mem_iff, (srt_perm bs).mem_iff]
    exact h o
/-- each once -/
def once : List Oc1 → List Oc1
  | [] => []
  | o :: os => if o ∈ once os then once os else o :: once os
theorem once_mem {o : Oc1} : ∀ {os : List Oc1}, o ∈ once os ↔ o ∈ os
  | [] => Iff.rfl
  | a :: os => by
    have ih := once_mem (o := o) (os := os)
    unfold once
    split
    · rename_i h
      rw [ih, List.mem_cons]
      exact ⟨.inr, fun z => z.elim (fun e => by rw [e]; exact once_mem.mp h) id⟩
    · rw [List.mem_cons, List.mem_cons, ih]
theorem once_nd : ∀ os : List Oc1, (once os).Nodup
  | [] => List.nodup_nil
  | a :: os => by
    unfold once
    split
    · exact once_nd os
    · rename_i h
      exact List.nodup_cons.mpr ⟨h, once_nd os⟩

/-! ### the sorts -/
/-- a value with its outcome -/
abbrev VO := V × Oc1
def voLe (a b : VO) : Bool := ocLe a.2 b.2
theorem vo_srt (bs : List VO) : (bs.mergeSort voLe).map (·.2) = srt (bs.map (·.2)) := List.map_mergeSort fun _ _ _ _ => rfl
theorem each_vals : ∀ {vs : List Value} {bs : List VO}, PySem.W.EachIs (fun v b => RelV b.1 v) vs bs → Vals (bs.map (·.1)) vs
  | _, _, .nil => .nil
  | _, _, .cons h t => .cons h (each_vals t)
theorem vals_each : ∀ {bs : List VO} {vs : List Value}, Vals (bs.map (·.1)) vs → PySem.W.EachIs (fun v b => RelV b.1 v) vs bs
  | [], _, .nil => .nil
  | _ :: _, _, .cons h t => .cons h (vals_each t)
theorem each_and {α β : Type} {R S : α → β → Prop} (f : ∀ a b, b ∈ ([] : List β) → S a b) : True := trivial
section
variable {X : Cx} {pins : List (Addr × Obj)} {σ : L2.St} {H F : Hp} {s : Shared}
theorem each_reads (I : Inv X pins σ H s) (e : Same F H) : ∀ {bs : List VO} {vs : List Value}, (∀ b ∈ bs, RT F b.1 (enc b.2)) → Vals (bs.map (·.1)) vs → PySem.W.EachIs (fun v b => ∃ as, Reads s.heap v (od b.2) as) vs bs
  | [], _, _, .nil => .nil
  | b :: bs, _, h, .cons r t => .cons (Dp.reads I _ _ _ (RT.dp (K := X.K) _ _ (RT.up e _ _ (h b List.mem_cons_self))) r) (each_reads I e (fun c hc => h c (List.mem_cons_of_mem _ hc)) t)
theorem vo_ok {bs : List VO} : PySem.W.AllAlike (bs.map fun b => od b.2) := PySem.W.AllAlike.of fun _ _ => oc_alike _ _
theorem vo_tups {bs : List VO} (h : ∀ b ∈ bs, b.2 ≠ []) : PySem.W.Sortable (bs.map fun b => od b.2) := .inl fun d hd => by
  obtain ⟨b, hb, rfl⟩ := List.mem_map.mp hd
  have hne := h b hb
  show ∃ x r, od b.2 = _
  cases q : b.2 with
  | nil => exact absurd q hne
  | cons o os => exact ⟨_, _, rfl⟩
theorem od_dep (o : Oc1) : (od o).depth ≤ 2 := Enc.dep_le o
/-- sorted(l) -/
def rSortN : List V → Hp → VK → Prop := fun vs H Q => ∃ (F : Hp) (l : Addr) (bs : List VO), vs = [V.ref l] ∧ Same F H ∧ H l = some (.lst (bs.map (fun b : VO => b.1))) ∧ (∀ b ∈ bs, RT F b.1 (enc b.2) ∧ b.2 ≠ []) ∧ bs.length ≤ 100000 ∧
  ∀ p, H p = none → Q (.ref p) (upd H p (.lst ((bs.mergeSort voLe).map (fun b : VO => b.1))))
theorem cSortN (hu : X.A.units + 65 < cLine) : CallR X (.builtin "sorted") rSortN := by
  intro pins s σ H vs us Q I r h
  obtain ⟨F, l, bs, rfl, e, hl, hb, hz, q⟩ := h
  obtain ⟨u, rfl, rx⟩ := r.one
  cases rx
  obtain ⟨its, n, rv, ho, _⟩ := I.lst hl
  have hlen : bs.length ≤ sizeLine := big2 (by omega)
  refine PySem.W.sorted_data (enc := fun b : VO => od b.2) (R := fun v b => RelV b.1 v) (vs := its) (bs := bs) ⟨_, ho, rfl, n, rfl⟩ (vals_each rv) (each_reads I e (fun b hb' => (hb b hb').1) rv) vo_ok (vo_tups fun b hb' => (hb b hb').2) hlen (fun b _ => ?_) fun out ol oe => ?_
  · have := od_dep b.2
    omega
  · obtain ⟨c, hc⟩ := sortedAll_at s.heap its out.toArray
    have hn : H (s.heap.objs.size + 1) = none := I.hok.fresh (Nat.le_succ _)
    refine ⟨.ref (s.heap.objs.size + 1), _, I.laid (t' := s.toks) (o := .lst ((bs.mergeSort voLe).map (·.1))) (fun b o z => sortedAll_old z) (Nat.le_succ _) ?_, rfl, q _ hn⟩
    exact ⟨by rw [List.length_map, (List.mergeSort_perm _ _).length_eq]; exact hlen, out, c, each_vals oe, hc⟩
end
section
variable {Ps : Tys} {te : TE} {os : List Oc1}
theorem rt_pairs {F : Hp} : ∀ {os : List Oc1} {vs : List V}, AllP F (os.map fun o => Dat (enc o)) vs → ∃ bs : List VO, bs.map (·.1) = vs ∧ bs.map (·.2) = os ∧ ∀ b ∈ bs, RT F b.1 (enc b.2)
  | [], _, .nil => ⟨[], rfl, rfl, fun _ h => nomatch h⟩
  | o :: os, _, .cons h t => by
    obtain ⟨bs, h1, h2, h3⟩ := rt_pairs t
    refine ⟨(_, o) :: bs, by rw [List.map_cons, h1], by rw [List.map_cons, h2], fun b hb => ?_⟩
    rcases List.mem_cons.mp hb with rfl | hb
    · exact h
    · exact h3 b hb
theorem pairs_rt {F : Hp} : ∀ {bs : List VO}, (∀ b ∈ bs, RT F b.1 (enc b.2)) → AllP F ((bs.map (·.2)).map fun o => Dat (enc o)) (bs.map (·.1))
  | [], _ => .nil
  | b :: bs, h => .cons (h b List.mem_cons_self) (pairs_rt fun c hc => h c (List.mem_cons_of_mem _ hc))
theorem e_sortN (h : EvX te Ps (LstP (os.map fun o => Dat (enc o)))) (hne : ∀ o ∈ os, o ≠ []) (hz : os.length ≤ 100000) : EvX (tCB rSortN (tCons te tNil)) Ps (LstP ((srt os).map fun o => Dat (enc o))) :=
  x_cb (a_cons h a_nil) fun F H vs e p Q q => by
    cases p with
    | cons p1 p2 =>
      cases p2
      obtain ⟨l, xs, rfl, h2, h3⟩ := p1
      obtain ⟨bs, b1, b2, b3⟩ := rt_pairs h3
      have hlen : bs.length = os.length := by rw [← b2, List.length_map]
      refine ⟨F, l, bs, rfl, e, by rw [b1]; exact e _ _ h2, fun b hb => ⟨b3 b hb, hne _ (by rw [← b2]; exact List.mem_map.mpr ⟨b, hb, rfl⟩)⟩, by rw [hlen]; exact hz, fun p hp => ?_⟩
      refine q _ _ _ (.new e hp) ⟨p, _, rfl, upd_same, ?_⟩
      have := pairs_rt (F := upd F p (.lst ((bs.mergeSort voLe).map (·.1)))) (bs := bs.mergeSort voLe) fun b hb => RT.up (Same.upd_new (e.free hp)) _ _ (b3 b ((List.mergeSort_perm _ _).mem_iff.mp hb))
      rw [vo_srt, b2] at this
      exact this
end
end G
set_option Elab.async false
set_option linter.all false
set_option maxRecDepth 100000
set_option maxHeartbeats 4000000
namespace G
open PySem PySem.Spec PyProof.Rows L2
open Enc (enc)
section
variable {P : Program} {w : World} {A : Around} {E : Value → Shared → Prop} {s : Shared}
/-- set(l) -/
theorem call_setN {l : Addr} {items : Array Value} (ks : AK) {Q : Value → Shared → Prop} (hh : A.handled = none) (hl : s.heap.IsList l items) (hit : items.toList = ks.map fun p => Value.ref p.1)
    (hk : ∀ p ∈ ks, KA s.heap p.2 p.1) (hfew : ks.length ≤ 250) (hu : A.units + 20 < cLine)
    (h : ∀ (h' : Heap) (tk : Nat) L es ep t, SetN w h' s.heap.objs.size L es ep t → Has ks ks.length L → (∀ b o, s.heap.get? b = some o → h'.get? b = some o) → Q (.ref s.heap.objs.size) { s with heap := h', toks := tk }) :
    wpAny (model P w) A (call (.type "set") [.ref l]) Q E s := by
  have hisz : items.size = ks.length := by rw [← Array.length_toList, hit, List.length_map]
  obtain ⟨c, tl, hmro⟩ := F.called_set.mro
  have hmade := F.called_set.made
  have hsub := F.called_set.sub
  refine wpAny_call (codeAny_of_tree ?_)
  show wpAny _ _ (callAny (.type "set") _) _ _ _
  refine wpAny_pure ⟨Code.quiet_builtin _ (by decide +kernel), codeAny_builtin F.entry_type_call ?_⟩
  rw [Around.under_plain (weight_type_call_type "set" [.ref l] []) rfl]
  have h1 := F.called_set.notType
  have h2 := F.called_set.canCreate
  have hct := F.typeCall_set_1 (.ref l)
  repeat (any_goals (first | assumption | wp_step))
  refine codeAny_mono (code_set_led1 (.ref l) (E := E) (Q₁ := fun obj s₁ => obj = .ref s.heap.objs.size ∧ s₁ = { s with heap := s.heap.push (newSet w) }) ⟨rfl, rfl⟩) fun r s₁ hr => ?_
  match r, hr with
  | .error e, hr => exact hr
  | .ok (.ret obj), hr =>
    obtain ⟨rfl, rfl⟩ := hr
    have hS : (s.heap.push (newSet w)).get? s.heap.objs.size = some (newSet w) := Heap.get?_push_size _ rfl
    have hT : Shared.TypeIs { s with heap := s.heap.push (newSet w) } (.ref s.heap.objs.size) "set" := ⟨_, hS, rfl⟩
    have hli := F.called_set.init.lookup
    have hbi := F.called_set.init.bind (.ref s.heap.objs.size)
    repeat (any_goals (first | assumption | wp_step))
    refine codeAny_mono (codeAny_call_builtin (R := wants (fun r s₂ => r = .none ∧ ∃ h' tk L es ep t, s₂ = { s with heap := h', toks := tk } ∧ SetN w h' s.heap.objs.size L es ep t ∧ Has ks ks.length L ∧
        (∀ b o, s.heap.get? b = some o → h'.get? b = some o)) E) F.called_set.init.plain F.entry_set_init (check_set_init_1 hT ?_)) fun r₂ s₂ hr₂ => ?_
    · obtain ⟨ol, hol, hcl, nl, hdl⟩ := hl
      obtain ⟨ocls, odict, odata, oslots⟩ := ol
      simp only at hcl hdl
      subst hcl hdl
      have hol' : (s.heap.push (newSet w)).get? l = some { cls := .type "list", dict := odict, data := .seq items nl, slots := oslots } := Heap.get?_push_of_some _ hol
      have hsls := F.sub_list_set
      have hslf := F.sub_list_frozenset
      have hne : (Value.type "list" == Value.type "dict") = false := by decide
      have hl1 : (s.heap.push (newSet w)).IsList l items := ⟨_, hol', rfl, nl, rfl⟩
      unfold Builtin.«set.__init__» noKeywords Builtin.Frozenset.updateFrom
      generalize hPI : pyIter = PI
      wp_walk
      subst hPI
      refine wpAny_pyIter_list hl1 ?_
      refine wpAny_bind (wpAny_runValue ?_)
      have hlS : l < s.heap.objs.size := Heap.lt_size hol
      have hh3 : A.in1.in1.in1.handled = none := by simp [hh]
      have hz1 : (s.heap.push (newSet w)).objs.size = s.heap.objs.size + 1 := Heap.size_push ..
      have hneI : l ≠ (s.heap.push (newSet w)).objs.size := by rw [hz1]; exact Nat.ne_of_lt (Nat.lt_succ_of_lt hlS)
      have hSf : s.heap.objs.size ∉ [(s.heap.push (newSet w)).objs.size, l] := by
        rw [hz1]
        intro z
        rcases List.mem_cons.mp z with z | z
        · exact absurd z (Nat.ne_of_lt (Nat.lt_succ_self _))
        · exact absurd (List.mem_singleton.mp z).symm (Nat.ne_of_lt hlS)
      have hval : ∀ (i : Nat) (v : Value), items[i]? = some v → ∃ p, ks[i]? = some p ∧ v = .ref p.1 := fun i v hv => by
        rw [← Array.getElem?_toList, hit, List.getElem?_map] at hv
        obtain ⟨p, p1, p2⟩ := Option.map_eq_some_iff.mp hv
        exact ⟨p, p1, p2.symm⟩
      have none_of : ∀ b, s.heap.objs.size ≤ b → s.heap.get? b = none := fun b hb => by
        cases q : s.heap.get? b with
        | none => rfl
        | some o => exact absurd (Nat.lt_of_lt_of_le (Heap.lt_size q) hb) (Nat.lt_irrefl _)
      refine fill_set ((Walks.list hh3 _ l hneI items).toS) s.heap.objs.size hSf ks hisz hfew hval s.heap hk (none_of _ (Nat.le_refl _)) (fun b hb => none_of b (by rw [List.mem_singleton.mp hb, hz1]; exact Nat.le_succ _))
        (by show A.units + 1 + 1 + 1 + 8 < cLine; omega) (items.size - 0) 0 _ (by omega) (Nat.zero_le _) ⟨⟨_, Heap.get?_push_size _ rfl, rfl, rfl⟩, (hl1.push _)⟩ (fun b o e => Heap.get?_push_of_some _ (Heap.get?_push_of_some _ e)) ?hS0 ?hR
      case hS0 =>
        exact ⟨[], #[], 0, _, setN_new (Heap.get?_push_of_some _ hS), ⟨fun p hp => (nomatch hp), fun p hp => (by simp at hp), Nat.le_refl _⟩⟩
      case hR =>
        intro s' L es ep t hm hS' g' hkp
        obtain ⟨h', g2, d', tk', os'⟩ := s'
        obtain rfl : g2 = s.gens := hm.gens
        obtain rfl : d' = s.drawn := hm.drawn
        obtain rfl : os' = s.os := hm.os
        show wpAny _ _ _ _ _ _
        refine wpAny_pure ?_
        show wpAny _ _ (ret Value.none) _ _ _
        rw [hisz] at g'
        exact wpAny_pure ⟨rfl, h', tk', L, es, ep, t, rfl, hS', g', hkp⟩
    · match r₂, hr₂ with
      | .error e, hr₂ => exact hr₂
      | .ok (.ret r), hr₂ =>
        obtain ⟨rfl, h', tk, L, es, ep, t, rfl, hS', g', hk'⟩ := hr₂
        repeat (any_goals (first | assumption | wp_step))
        exact h _ _ _ _ _ _ hS' g' hk'
end
end G
set_option Elab.async false
set_option linter.all false
set_option maxRecDepth 100000
set_option maxHeartbeats 4000000
namespace G
open PySem PySem.Spec PyProof.Rows L2
open Enc (enc)
/-- the set's object, without the tuples themselves -/
def SetO (w : World) (a : Addr) (L : AK) : HO := .ext fun h => ∃ (es : Array (Int × Value)) (ep : Nat) (t : SetTable), (∃ o, h.get? a = some o ∧ o.ExactSet ∧ o.data = .set es ep t) ∧ es.toList = rws w L ∧ Tab t (L.map fun p => p.2.hash w) ∧ (L.map (·.2)).Nodup ∧
  t.plain = true ∧ (w.params.followText "set-order" = true ∨ t.led = true) ∧ L.length * 5 < t.mask * 3 ∧ L.length ≤ 250 ∧ (t.mask = 7 ∨ t.mask = 31 ∨ t.mask = 127 ∨ t.mask = 511)
theorem setO_ok {P : Program} {w : World} {H : Hp} {h : Heap} {a : Addr} {L : AK} {es : Array (Int × Value)} {ep : Nat} {t : SetTable} (R : SetN w h a L es ep t) : ObjOk P w H h a (SetO w a L) := by
  obtain ⟨o, ho, r⟩ := R.ob
  refine ⟨⟨es, ep, t, ⟨o, ho, r⟩, R.rows, R.tab, R.nd, R.plain, R.led, R.room, R.few, R.msk⟩, ⟨o, ho⟩, ?_⟩
  rintro k1 k2 ⟨es', ep', t', ⟨o', q1, q2⟩, q3⟩ k
  exact ⟨es', ep', t', ⟨o', k o' q1, q2⟩, q3⟩
theorem setO_at {X : Cx} {pins : List (Addr × Obj)} {σ : L2.St} {H : Hp} {s : Shared} {a : Addr} {L : AK} (I : Inv X pins σ H s) (e : H a = some (SetO X.w a L)) (hk : ∀ p ∈ L, KA s.heap p.2 p.1) : ∃ es ep t, SetN X.w s.heap a L es ep t := by
  obtain ⟨⟨es, ep, t, h1, h2, h3, h4, h5, h6, h7, h8, h9⟩, _⟩ := (show ObjOk X.prog X.w H s.heap a (SetO X.w a L) from I.hok a _ e)
  exact ⟨es, ep, t, h1, h2, h3, h4, hk, h5, h6, h7, h8, h9⟩
/-- outcomes as keys -/
theorem oc_pl (o : Oc1) : plK (enc o).key = true := by
  have h1 : ∀ is : List Int, plKs (T.keys (is.map enc)) = true := fun is => by
    induction is with
    | nil => rfl
    | cons i is ih => exact ih
  have h2 : ∀ os : List (List Int), plKs (T.keys (os.map enc)) = true := fun os => by
    induction os with
    | nil => rfl
    | cons i is ih =>
      show (plKs (T.keys (i.map enc)) && _) = true
      rw [h1, ih]
      rfl
  exact h2 o
theorem oc_kdep (o : Oc1) : (enc o).key.depth ≤ 8 := by
  rw [key_dep]
  exact Nat.le_trans (Enc.dep_le o) (by decide)
section
variable {X : Cx} {pins : List (Addr × Obj)} {σ : L2.St} {H F : Hp} {s : Shared}
theorem ka_of (I : Inv X pins σ H s) (e : Same F H) {a : Addr} {o : Oc1} (h : RT F (.ref a) (enc o)) : KA s.heap (enc o).key a :=
  ⟨rt_nested I _ _ _ (RT.up e _ _ h) rfl, oc_kdep o, oc_pl o⟩
/-- addresses with their outcomes -/
abbrev AO := List (Addr × Oc1)
def ak (L : AO) : AK := L.map fun p => (p.1, (enc p.2).key)
theorem ak_keys (L : AO) : (ak L).map (·.2) = L.map fun p => (enc p.2).key := by
  unfold ak
  rw [List.map_map]
  rfl
theorem ak_of {bs : AO} : ∀ {L : AK}, (∀ p ∈ L, p ∈ ak bs) → ∃ L' : AO, ak L' = L ∧ ∀ p ∈ L', p ∈ bs
  | [], _ => ⟨[], rfl, fun _ h => nomatch h⟩
  | p :: L, h => by
    obtain ⟨L', h1, h2⟩ := ak_of (L := L) fun q hq => h q (List.mem_cons_of_mem _ hq)
    obtain ⟨b, b1, b2⟩ := List.mem_map.mp (h p List.mem_cons_self)
    refine ⟨b :: L', by rw [← h1, ← b2]; rfl, fun q hq => ?_⟩
    rcases List.mem_cons.mp hq with rfl | hq
    · exact b1
    · exact h2 q hq
/-- set(l), l a list of outcomes -/
def rMkSet (w : World) : List V → Hp → VK → Prop := fun vs H Q => ∃ (F : Hp) (l : Addr) (bs : AO), vs = [V.ref l] ∧ Same F H ∧ H l = some (.lst (bs.map fun b => V.ref b.1)) ∧ (∀ b ∈ bs, RT F (.ref b.1) (enc b.2)) ∧ bs.length ≤ 250 ∧
  ∀ a L, H a = none → (∀ p ∈ L, p ∈ bs) → (∀ p ∈ bs, p.2 ∈ L.map (·.2)) → (L.map (·.2)).Nodup → Q (.ref a) (upd H a (SetO w a (ak L)))
theorem cMkSet (hc : X.calm = true) (hu : X.A.units + 65 < cLine) : CallR X (.type "set") (rMkSet X.w) := by
  intro pins s σ H vs us Q I r h
  obtain ⟨F, l, bs, rfl, e, hl, hb, hz, q⟩ := h
  obtain ⟨u, rfl, rx⟩ := r.one
  cases rx
  obtain ⟨its, n, rv, ho, _⟩ := I.lst hl
  have hit : its.toArray.toList = (ak bs).map fun p => Value.ref p.1 := by
    rw [List.toList_toArray]
    unfold ak
    rw [List.map_map]
    have : ∀ {bs : AO} {its : List Value}, Vals (bs.map fun b => V.ref b.1) its → its = bs.map fun b => Value.ref b.1 := fun {bs} => by
      induction bs with
      | nil => intro its h; cases h; rfl
      | cons b bs ih =>
        intro its h
        cases h with
        | cons r t =>
          cases r
          rw [ih t]
          rfl
    exact this rv
  have hn : H s.heap.objs.size = none := I.hok.fresh (Nat.le_refl _)
  refine call_setN (P := X.prog) (w := X.w) (ak bs) (I.ok.hd hc) ⟨_, ho, rfl, n, rfl⟩ hit (fun p hp => ?_) (by unfold ak; rw [List.length_map]; exact hz) (by omega) fun h' tk L es ep t R g k => ?_
  · obtain ⟨b, b1, b2⟩ := List.mem_map.mp hp
    rw [← b2]
    exact ka_of I e (hb b b1)
  · obtain ⟨L', e1, e2⟩ := ak_of g.sub
    subst e1
    refine ⟨.ref s.heap.objs.size, upd H s.heap.objs.size (SetO X.w s.heap.objs.size (ak L')), I.laid (t' := tk) k (Nat.le_refl _) (setO_ok R), rfl, q _ L' hn e2 (fun p hp => ?_) ?_⟩
    · have h1 := g.all (p.1, (enc p.2).key) (by rw [List.take_length]; exact List.mem_map.mpr ⟨p, hp, rfl⟩)
      rw [ak_keys] at h1
      obtain ⟨p', h2, h3⟩ := List.mem_map.mp h1
      exact List.mem_map.mpr ⟨p', h2, key_inj.mp h3⟩
    · have h1 := R.nd
      rw [ak_keys] at h1
      refine List.pairwise_map.mpr ((List.pairwise_map.mp h1).imp fun h2 h3 => h2 (by rw [h3]))
/-- sorted(s), s a set of outcomes -/
def rSortSet (w : World) : List V → Hp → VK → Prop := fun vs H Q => ∃ (F : Hp) (a : Addr) (L : AO), vs = [V.ref a] ∧ Same F H ∧ H a = some (SetO w a (ak L)) ∧ (∀ p ∈ L, RT F (.ref p.1) (enc p.2) ∧ p.2 ≠ []) ∧
  ∀ p (bs : List VO), H p = none → (bs.map (·.2)).Perm (L.map (·.2)) → (∀ b ∈ bs, RT F b.1 (enc b.2)) → Q (.ref p) (upd H p (.lst ((bs.mergeSort voLe).map (fun b : VO => b.1))))
theorem refs_of {L : AO} : ∀ vs : List Value, (∀ v ∈ vs, v ∈ L.map fun p => Value.ref p.1) → ∃ M : AO, vs = M.map (fun p => Value.ref p.1) ∧ ∀ p ∈ M, p ∈ L
  | [], _ => ⟨[], rfl, fun _ h => nomatch h⟩
  | v :: vs, h => by
    obtain ⟨M, h1, h2⟩ := refs_of vs fun u hu => h u (List.mem_cons_of_mem _ hu)
    obtain ⟨p, p1, p2⟩ := List.mem_map.mp (h v List.mem_cons_self)
    refine ⟨p :: M, by rw [h1, ← p2]; rfl, fun q hq => ?_⟩
    rcases List.mem_cons.mp hq with rfl | hq
    · exact p1
    · exact h2 q hq
theorem cSortSet (hc : X.calm = true) (hu : X.A.units + 65 < cLine) : CallR X (.builtin "sorted") (rSortSet X.w) := by
  intro pins s σ H vs us Q I r h
  obtain ⟨F, a, L, rfl, e, ha, hb, q⟩ := h
  obtain ⟨u, rfl, rx⟩ := r.one
  cases rx
  obtain ⟨es, ep, t, R⟩ := setO_at I ha fun p hp => by
    obtain ⟨b, b1, b2⟩ := List.mem_map.mp hp
    rw [← b2]
    exact ka_of I e (hb b b1).1
  obtain ⟨o, ho, hex, hd⟩ := R.ob
  have hlen : L.length ≤ 250 := by
    have := R.few
    unfold ak at this
    rw [List.length_map] at this
    exact this
  refine Calls.call_function_entry kind_sorted plain_sorted entry_sorted (args_sorted1 _) ?_
  unfold Builtin.«sorted»
  refine wpAny_bind (m := checkCount "sorted" 1 1 _) (wpAny_pure ?_)
  refine wpAny_bind (collect_set (A := X.A.in1) (I.ok.hd hc) ⟨o, ho, hex.1, hd⟩ R.fits (by rw [R.len]; unfold ak scanBound; rw [List.length_map]; omega) R.tab.ris R.led fun s1 vs k1 hz g1 o1 pm => ?_)
  have hes : es.toList.map (·.2) = L.map fun p => Value.ref p.1 := by
    rw [R.rows]
    unfold rws ak
    rw [List.map_map, List.map_map]
    rfl
  rw [hes] at pm
  obtain ⟨M, rfl, hM⟩ := refs_of (L := L) vs fun v hv => pm.mem_iff.mp hv
  -- an address has one outcome
  have one : ∀ p ∈ L, ∀ p' ∈ L, p.1 = p'.1 → p = p' := fun p hp p' hp' e1 => by
    have a1 := ka_of I e (hb p hp).1
    have a2 := ka_of I e (hb p' hp').1
    rw [e1] at a1
    exact Prod.ext e1 (key_inj.mp (a1.inj a2))
  have nL : (L.map (·.2)).Nodup := by
    have h1 := R.nd
    rw [ak_keys] at h1
    exact List.pairwise_map.mpr ((List.pairwise_map.mp h1).imp fun h2 h3 => h2 (by rw [h3]))
  have nL' : L.Nodup := (List.pairwise_map.mp nL).imp fun h2 h3 => h2 (by rw [h3])
  have nref : (L.map fun p => Value.ref p.1).Nodup := List.pairwise_map.mpr (nL'.imp_of_mem fun {p p'} hp hp' hne e1 => hne (one p hp p' hp' (Value.ref.inj e1)))
  have nM : M.Nodup := (List.pairwise_map.mp (pm.nodup_iff.mpr nref)).imp fun h2 h3 => h2 (by rw [h3])
  have pML : M.Perm L := (List.perm_ext_iff_of_nodup nM nL').mpr fun p => ⟨hM p, fun hp => by
    obtain ⟨p', m1, m2⟩ := List.mem_map.mp (pm.mem_iff.mpr (List.mem_map.mpr ⟨p, hp, rfl⟩))
    rw [← one p' (hM p' m1) p hp (Value.ref.inj m2)]
    exact m1⟩
  have hML : M.length = L.length := pML.length_eq
  generalize hvs : M.map (fun p => Value.ref p.1) = vs at pm
  have hvl : vs.length = M.length := by rw [← hvs, List.length_map]
  have hvz : vs.length ≤ sizeLine := big2 (by omega)
  refine wpAny_bind (wpAny_newList ?_ hvz)
  have hoL : (s1.heap.push (seqObj "list" vs.toArray 0)).get? s1.heap.objs.size = some (seqObj "list" vs.toArray 0) := Heap.get?_push_size _ rfl
  have I1 : Inv X pins σ H { s with heap := s1.heap, gens := s1.gens, drawn := s1.drawn, toks := s1.toks } :=
    I.call (ch := []) (Un.kept k1) (I.hok.kept k1) (by rw [g1]; exact I.bare) fun _ z => nomatch z
  let bs : List VO := M.map fun p => (V.ref p.1, p.2)
  have hb1 : ∀ b ∈ bs, RT F b.1 (enc b.2) ∧ b.2 ≠ [] := fun b hb' => by
    obtain ⟨p, p1, rfl⟩ := List.mem_map.mp hb'
    exact hb p (hM p p1)
  have rv : Vals (bs.map (·.1)) vs := by
    rw [← hvs]
    have : ∀ M : AO, Vals ((M.map fun p => ((V.ref p.1, p.2) : VO)).map (·.1)) (M.map fun p => Value.ref p.1) := fun M => by
      induction M with
      | nil => exact .nil
      | cons p M ih => exact .cons rfl ih
    exact this M
  have er := each_reads I1 e (fun b hb' => (hb1 b hb').1) rv
  have hHS : ∀ b o, s1.heap.get? b = some o → (PySem.W.sortingHeap (s1.heap.push (seqObj "list" vs.toArray 0)) s1.heap.objs.size vs).get? b = some o := fun b o z =>
    PySem.W.sortingHeap_old (Nat.ne_of_lt (Heap.lt_size z)) (Heap.get?_push_of_some _ z)
  generalize hHSe : PySem.W.sortingHeap (s1.heap.push (seqObj "list" vs.toArray 0)) s1.heap.objs.size vs = HS at hHS
  have er2 : PySem.W.EachIs (fun v (b : VO) => ∃ as, Reads HS v (od b.2) as) vs bs := er.mono fun _ _ ⟨as, z⟩ => ⟨as, PyProof.Rows.Reads.keeps hHS z⟩
  have hbl : bs.length = M.length := List.length_map ..
  have hsort : PySem.W.SortsAt X.prog X.w X.A.in1.in1 { s1 with heap := HS } (PySem.W.dataKind HS (bs.map fun b => od b.2)) vs :=
    PySem.W.SortsAt.data (s := { s1 with heap := HS }) (PySem.W.each_map (R := fun v d => ∃ as, Reads HS v d as) (fun b : VO => od b.2) er2) vo_ok (vo_tups fun b hb' => (hb1 b hb').2) (PySem.W.bound_map fun b _ => by
      have := od_dep b.2
      show X.A.units + 1 + 1 + (od b.2).depth < cLine
      omega)
  have oe : PySem.W.EachIs (fun v b => RelV b.1 v) (PySem.W.sortVals (PySem.W.dataKind HS (bs.map fun b => od b.2)) false vs vs) (bs.mergeSort voLe) := PySem.W.sortVals_data (enc := fun b : VO => od b.2) false (vals_each rv) er2 vo_ok
  refine wpAny_bind (wpAny_holding (wpAny_call_entry slot_list_sort ⟨_, hoL, rfl⟩ entry_list_sort (PySem.W.list_sort_vals (s := { s1 with heap := s1.heap.push (seqObj "list" vs.toArray 0) }) (κ := PySem.W.dataKind HS (bs.map fun b => od b.2)) hoL (by
    show PySem.W.SortsAt _ _ _ { s1 with heap := PySem.W.sortingHeap (s1.heap.push (seqObj "list" vs.toArray 0)) s1.heap.objs.size vs } _ _
    rw [hHSe]
    exact hsort) hvz ⟨_, rfl, ?_⟩) (args_list_sort _)))
  generalize PySem.W.sortVals (PySem.W.dataKind HS (bs.map fun b => od b.2)) false vs vs = out at oe
  obtain ⟨c, hcl⟩ := sortedHeap_at (vs := vs) (out := out.toArray) hoL
  have kk : ∀ b o, s.heap.get? b = some o → (sortedHeap (s1.heap.push (seqObj "list" vs.toArray 0)) s1.heap.objs.size vs out.toArray).get? b = some o := fun b o z => by
    have z1 := k1 b o z
    have z2 := Heap.lt_size z1
    rw [sortedHeap_old (Nat.ne_of_lt z2) (by rw [size_push']; exact Nat.lt_succ_of_lt z2)]
    exact Heap.get?_push_of_some _ z1
  have hn : H s1.heap.objs.size = none := I.hok.fresh hz
  refine wpAny_pure ⟨_, rfl, ?_⟩
  have hfin : ObjOk X.prog X.w (upd H s1.heap.objs.size (.lst ((bs.mergeSort voLe).map (·.1)))) (sortedHeap (s1.heap.push (seqObj "list" vs.toArray 0)) s1.heap.objs.size vs out.toArray) s1.heap.objs.size (.lst ((bs.mergeSort voLe).map (·.1))) :=
    ⟨by rw [List.length_map, (List.mergeSort_perm _ _).length_eq, hbl]; exact big2 (by omega), out, c, each_vals oe, hcl⟩
  have J : Inv X pins σ (upd H s1.heap.objs.size (.lst ((bs.mergeSort voLe).map (·.1)))) { s with heap := sortedHeap (s1.heap.push (seqObj "list" vs.toArray 0)) s1.heap.objs.size vs out.toArray, gens := s1.gens, drawn := s1.drawn, toks := s1.toks } :=
    I.call (ch := []) (Un.laid kk hz hn) (I.hok.laid kk hz hfin) (by rw [g1]; exact I.bare) fun _ z => nomatch z
  have es1 : ({ s1 with heap := sortedHeap (s1.heap.push (seqObj "list" vs.toArray 0)) s1.heap.objs.size vs out.toArray } : Shared) = { s with heap := sortedHeap (s1.heap.push (seqObj "list" vs.toArray 0)) s1.heap.objs.size vs out.toArray, gens := s1.gens, drawn := s1.drawn, toks := s1.toks } := by
    rw [← o1]
  refine ⟨.ref s1.heap.objs.size, _, es1 ▸ J, rfl, q _ bs hn ?_ fun b hb' => (hb1 b hb').1⟩
  have : bs.map (·.2) = M.map (·.2) := by
    show (M.map _).map _ = _
    rw [List.map_map]
    rfl
  rw [this]
  exact pML.map _
end
/-! in the layer -/
/-- a set of these outcomes -/
def SetQ (w : World) (os : List Oc1) (H : Hp) (v : V) : Prop := ∃ (a : Addr) (L : AO), v = .ref a ∧ H a = some (SetO w a (ak L)) ∧ (∀ p ∈ L, RT H (.ref p.1) (enc p.2)) ∧ (L.map (·.2)).Nodup ∧ ∀ o, o ∈ L.map (·.2) ↔ o ∈ os
theorem SetQ.up {w : World} {os : List Oc1} (H H' : Hp) (v : V) (e : Same H H') (h : SetQ w os H v) : SetQ w os H' v := by
  obtain ⟨a, L, h1, h2, h3, h4, h5⟩ := h
  exact ⟨a, L, h1, e _ _ h2, fun p hp => RT.up e _ _ (h3 p hp), h4, h5⟩
def SetP (w : World) (os : List Oc1) : Ty := ⟨SetQ w os, SetQ.up⟩
section
variable {w : World} {Ps : Tys} {te : TE} {os : List Oc1}
theorem ao_of {F : Hp} {os : List Oc1} {vs : List V} (h : AllP F (os.map fun o => Dat (enc o)) vs) : ∃ bs : AO, bs.map (fun b => V.ref b.1) = vs ∧ bs.map (·.2) = os ∧ ∀ b ∈ bs, RT F (.ref b.1) (enc b.2) := by
  induction os generalizing vs with
  | nil => cases h; exact ⟨[], rfl, rfl, fun _ h => nomatch h⟩
  | cons o os ih =>
    cases h with
    | cons h1 h2 =>
      obtain ⟨bs, b1, b2, b3⟩ := ih h2
      obtain ⟨a, xs, rfl, _, _⟩ := dat_tup.mp h1
      refine ⟨(a, o) :: bs, by rw [List.map_cons, b1], by rw [List.map_cons, b2], fun b hb => ?_⟩
      rcases List.mem_cons.mp hb with rfl | hb
      · exact h1
      · exact b3 b hb
theorem e_mkSet (h : EvX te Ps (LstP (os.map fun o => Dat (enc o)))) (hz : os.length ≤ 250) : EvX (tCB (rMkSet w) (tCons te tNil)) Ps (SetP w os) :=
  x_cb (a_cons h a_nil) fun F H vs e p Q q => by
    cases p with
    | cons p1 p2 =>
      cases p2
      obtain ⟨l, xs, rfl, h2, h3⟩ := p1
      obtain ⟨bs, b1, b2, b3⟩ := ao_of h3
      have hlen : bs.length = os.length := by rw [← b2, List.length_map]
      refine ⟨F, l, bs, rfl, e, by rw [b1]; exact e _ _ h2, b3, by rw [hlen]; exact hz, fun a L ha hL1 hL2 hL3 => ?_⟩
      refine q _ _ _ (.new e ha) ⟨a, L, rfl, upd_same, fun p hp => RT.up (Same.upd_new (e.free ha)) _ _ (b3 p (hL1 p hp)), hL3, fun o => ⟨fun ho => ?_, fun ho => ?_⟩⟩
      · obtain ⟨p, p1, rfl⟩ := List.mem_map.mp ho
        rw [← b2]
        exact List.mem_map.mpr ⟨p, hL1 p p1, rfl⟩
      · rw [← b2] at ho
        obtain ⟨p, p1, rfl⟩ := List.mem_map.mp ho
        exact hL2 p p1
theorem e_sortSet (h : EvX te Ps (SetP w os)) (hne : ∀ o ∈ os, o ≠ []) : EvX (tCB (rSortSet w) (tCons te tNil)) Ps (LstP ((srt (once os)).map fun o => Dat (enc o))) :=
  x_cb (a_cons h a_nil) fun F H vs e p Q q => by
    cases p with
    | cons p1 p2 =>
      cases p2
      obtain ⟨a, L, rfl, h2, h3, h4, h5⟩ := p1
      refine ⟨F, a, L, rfl, e, e _ _ h2, fun p hp => ⟨h3 p hp, hne _ ((h5 _).mp (List.mem_map.mpr ⟨p, hp, rfl⟩))⟩, fun l bs hl hp hb => ?_⟩
      refine q _ _ _ (.new e hl) ⟨l, _, rfl, upd_same, ?_⟩
      have := pairs_rt (F := upd F l (.lst ((bs.mergeSort voLe).map (·.1)))) (bs := bs.mergeSort voLe) fun b hb' => RT.up (Same.upd_new (e.free hl)) _ _ (hb b ((List.mergeSort_perm _ _).mem_iff.mp hb'))
      rw [vo_srt, srt_eq (bs := once os) (hp.nodup_iff.mpr h4) (once_nd os) fun o => by rw [hp.mem_iff, h5, once_mem]] at this
      exact this
end
end G
set_option Elab.async false
set_option linter.all false
set_option maxRecDepth 100000
set_option maxHeartbeats 4000000
/-! Things that are not finished and are written to: lists, dicts. -/
namespace G
open PySem PySem.Spec PyProof.Rows L2
open Enc (enc)
/-- growth, but for what stands at A -/
structure GrE (A : List Addr) (F H F' H' : Hp) : Prop where
  ff : Same F F'
  hh : ∀ b o, b ∉ A → H b = some o → H' b = some o
  fh : Same F' H'
  nw : ∀ a, H a ≠ none → F a = none → F' a = none
  up : ∀ a, H a ≠ none → H' a ≠ none
theorem GrE.of {A : List Addr} {F H F' H' : Hp} (g : Gr F H F' H') : GrE A F H F' H' := ⟨g.ff, fun b o _ h => g.hh b o h, g.fh, g.nw, fun a h => by
  cases e : H a with
  | none => exact absurd e h
  | some o => rw [g.hh a o e]; exact fun z => by cases z⟩
theorem GrE.trans {A : List Addr} {F H F1 H1 F2 H2 : Hp} (a : GrE A F H F1 H1) (b : GrE A F1 H1 F2 H2) : GrE A F H F2 H2 :=
  ⟨a.ff.trans b.ff, fun x o n h => b.hh x o n (a.hh x o n h), b.fh, fun x hx hf => b.nw x (a.up x hx) (a.nw x hx hf), fun x hx => b.up x (a.up x hx)⟩
theorem GrE.mono {A B : List Addr} {F H F' H' : Hp} (g : GrE A F H F' H') (s : ∀ a ∈ A, a ∈ B) : GrE B F H F' H' := ⟨g.ff, fun b o n h => g.hh b o (fun z => n (s b z)) h, g.fh, g.nw, g.up⟩
/-- what is written to was open -/
theorem GrE.put {l : Addr} {o o' : HO} {F H : Hp} (e : Same F H) (hf : F l = none) (h : H l = some o') : GrE [l] F H F (upd H l o) :=
  ⟨.refl _, fun b u n q => by rw [upd_ne (fun z => n (by rw [z]; exact List.mem_singleton.mpr rfl))]; exact q, fun b u q => by rw [upd_ne (ne_of_none q hf)]; exact e b u q, fun _ _ z => z, fun a ha => by
    by_cases c : a = l
    · subst c; rw [upd_same]; exact fun z => by cases z
    · rw [upd_ne c]; exact ha⟩
theorem RS.stepE {A : List Addr} {F0 H0 F H F' H' : Hp} {σ : L2.St} {Ps : Tys} (R : RS F0 H0 F H σ Ps) (h0 : ∀ a ∈ A, H0 a = none) (g : GrE A F H F' H') : RS F0 H0 F' H' σ Ps :=
  ⟨⟨R.gr.ff.trans g.ff, fun b o q => g.hh b o (fun z => by rw [h0 b z] at q; cases q) (R.gr.hh b o q), g.fh, fun x hx hf => g.nw x (fun z => hx (R.gr.hh.free z)) (R.gr.nw x hx hf)⟩, R.sl.up g.ff⟩
section
variable {P : Program} {w : World} {F H F' H' : Hp} {A : List Addr}
theorem OpL.stepE {l : Addr} {Qs : List Ty} (o : OpL l F H Qs) (n : l ∉ A) (g : GrE A F H F' H') : OpL l F' H' Qs := by
  obtain ⟨h1, us, h2, h3⟩ := o
  exact ⟨g.nw l (by rw [h2]; exact fun q => by cases q) h1, us, g.hh _ _ n h2, h3.up g.ff⟩
theorem OpD.stepE {d : Addr} {kvs : List (T × Ty)} (o : OpD P w d F H kvs) (n : d ∉ A) (g : GrE A F H F' H') : OpD P w d F' H' kvs := by
  obtain ⟨h1, xs, h2, h3⟩ := o
  exact ⟨g.nw d (by rw [h2]; exact fun q => by cases q) h1, xs, g.hh _ _ n h2, h3.up g.ff⟩
theorem Op.stepE {x C : Addr} {tfs : Flds} (o : Op x C F H tfs) (n : x ∉ A) (g : GrE A F H F' H') : Op x C F' H' tfs := by
  obtain ⟨h1, dx, fs, h2, h3⟩ := o
  exact ⟨g.nw x (by rw [h2]; exact fun q => by cases q) h1, dx, fs, g.hh _ _ n h2, h3.up g.ff⟩
theorem OpL.some {l : Addr} {Qs : List Ty} (o : OpL l F H Qs) : H l ≠ none := by
  obtain ⟨_, us, h2, _⟩ := o
  rw [h2]; exact fun z => by cases z
theorem OpD.some {d : Addr} {kvs : List (T × Ty)} (o : OpD P w d F H kvs) : H d ≠ none := by
  obtain ⟨_, us, h2, _⟩ := o
  rw [h2]; exact fun z => by cases z
theorem OpL.ne_d {l d : Addr} {Qs : List Ty} {kvs : List (T × Ty)} (o : OpL l F H Qs) (o' : OpD P w d F H kvs) : l ≠ d := fun z => by
  obtain ⟨_, us, h2, _⟩ := o
  obtain ⟨_, xs, h3, _⟩ := o'
  rw [z, h3] at h2
  cases h2
end
/-! ### evaluating while something is open -/
def Up (C : Hp → Hp → Prop) : Prop := ∀ F H F' H', C F H → Gr F H F' H' → C F' H'
def EvXo (C : Hp → Hp → Prop) (te : TE) (Ps : Tys) (P : Ty) : Prop := ∀ F H σ, Same F H → Slots F σ Ps → C F H → ∀ Q : VK, (∀ v F' H', Gr F H F' H' → P.p F' v → Q v H') → te σ H Q
def EvAo (C : Hp → Hp → Prop) (ta : TA) (Ps : Tys) (Rs : List Ty) : Prop := ∀ F H σ, Same F H → Slots F σ Ps → C F H → ∀ Q : List V → Hp → Prop, (∀ vs F' H', Gr F H F' H' → AllP F' Rs vs → Q vs H') → ta σ H Q
section
variable {C : Hp → Hp → Prop} {K : PySem.W.Frag} {Ps : Tys} {P P' R : Ty} {te ta tb : TE} {tl : TA} {tc : TT} {b : Bool} {F0 H0 F H : Hp} {σ : L2.St} {D : Ends} {tu tw t2 : TS} {Qs Rs : List Ty} {l d : Addr} {j : Nat} {ι : Type} {pre : ι → Prop} {io : PSp ι}
theorem xo (h : EvX te Ps P) : EvXo C te Ps P := fun F H σ e s _ Q q => h F H σ e s Q q
theorem ao_nil : EvAo C tNil Ps [] := fun F H σ e s _ Q q => q [] F H (.refl e) .nil
theorem ao_cons (u : Up C) (h : EvXo C te Ps P) (hr : EvAo C tl Ps Qs) : EvAo C (tCons te tl) Ps (P :: Qs) := fun F H σ e s c Q q =>
  h F H σ e s c _ fun v F1 H1 g1 p1 => hr F1 H1 σ g1.fh (s.up g1.ff) (u _ _ _ _ c g1) _ fun vs F2 H2 g2 p2 => q (v :: vs) F2 H2 (g1.trans g2) (.cons (P.up _ _ _ g2.ff p1) p2)
theorem xo_call (i : ι) (hp : pre i) (h : EvAo C tl Ps (io i).1) {E : XK} (hP : (io i).2 = P) : EvXo C (tCall (SpG pre io) [] E tl) Ps P := fun F H σ e s c Q q => by
  subst hP
  exact h F H σ e s c _ fun vs F1 H1 g1 p1 => ⟨i, F1, hp, g1.fh, by rw [List.append_nil]; exact p1, fun v F2 H2 g2 p2 => q v F2 H2 (g1.trans g2) p2⟩
/-- found[i], found open -/
theorem xo_ixL {n : Nat} (u : Up C) (hC : ∀ F H, C F H → OpL l F H Qs) (hj : EvX ta Ps (Vl (.ref l))) (hb : EvX tb Ps (Dat (.int (n : Int)))) (hn : Qs[n]? = some P) : EvXo C (tOp (rIxL K) ta tb) Ps P := fun F H σ e s c Q q =>
  hj F H σ e s _ fun x F1 H1 g1 p1 => hb F1 H1 σ g1.fh (s.up g1.ff) _ fun y F2 H2 g2 p2 => by
    obtain ⟨_, us, k1, k2⟩ := hC _ _ (u _ _ _ _ c (g1.trans g2))
    obtain ⟨v, m1, m2⟩ := k2.get hn
    exact ⟨l, us, n, v, p1, dat_int p2, SqL.of k1, atI_nat m1, q v F2 H2 (g1.trans g2) m2⟩
theorem xo_at (h : EvXo C te Ps P) (R : RS F0 H0 F H σ Ps) (c : C F H) : ∀ Q : VK, (∀ v F' H', Gr F H F' H' → P.p F' v → Q v H') → te σ H Q := h F H σ R.fh R.sl c
/-- statements -/
theorem so_asg {i : Nat} (R : RS F0 H0 F H σ Ps) (c : C F H) (h : EvXo C te Ps P) (k : ∀ F' H' σ', Gr F H F' H' → RS F0 H0 F' H' σ' (Ps.set i (some P)) → D.nx σ' H') : tAsg te (gName i) D σ H :=
  h F H σ R.fh R.sl c _ fun v F1 H1 g1 p1 => k F1 H1 _ g1 ((R.step g1).set i p1)
theorem so_asgS {i : Nat} (R : RS F0 H0 F H σ Ps) (c : C F H) (h : EvXo C te Ps P) (k : ∀ F' H' σ', Gr F H F' H' → RS F0 H0 F' H' σ' (Ps.set i (some P)) → t2 D σ' H') : tSeq (tAsg te (gName i)) t2 D σ H := so_asg R c h k
/-- if, the test read of what now stands (PsN: what the slots hold now) -/
theorem so_if {PsN : Tys} (R : RS F0 H0 F H σ Ps) (hs : Slots H σ PsN) (h : EvT tc PsN b) (h1 : b = true → ∀ F' H', Gr F H F' H' → RS F0 H0 F' H' σ Ps → tu D σ H') (h2 : b = false → ∀ F' H', Gr F H F' H' → RS F0 H0 F' H' σ Ps → tw D σ H') : tIfS tc tu tw D σ H :=
  now_t h R.fh hs fun H' g => by
    cases b with
    | true => exact h1 rfl F H' g (R.step g)
    | false => exact h2 rfl F H' g (R.step g)
/-- the slots as they stand now -/
theorem slots_now (R : RS F0 H0 F H σ Ps) : Slots H σ Ps := R.sl.up R.fh
theorem Slots.know {F : Hp} {v : V} (h : Slots F σ Ps) (hj : Ps[j]? = some (some (Vl v))) (hv : P.p F v) : Slots F σ (Ps.set j (some P)) := by
  refine ⟨by rw [List.length_set]; exact h.len, fun i P' q => ?_⟩
  by_cases e : j = i
  · subst e
    rw [List.getElem?_set_self (getElem?_lt hj)] at q
    have : P = P' := Option.some.inj (Option.some.inj q)
    subst this
    obtain ⟨u, h1, h2⟩ := h.at_ j (Vl v) hj
    have : u = v := h2
    subst this
    exact ⟨u, h1, hv⟩
  · rw [List.getElem?_set_ne e] at q
    exact h.at_ i P' q
/-- for x in a list -/
theorem i_lstO (h : ∀ Q : VK, (∀ v F' H', Gr F H F' H' → (LstP Qs).p F' v → Q v H') → te σ H Q) : ∀ Z : It → Hp → Prop, (∀ J F' H', Gr F H F' H' → WalkI J F' Qs → Z J H') → iList K te σ H Z := fun Z q =>
  h _ fun v F1 H1 g1 ⟨a, xs, h1, h2, h3⟩ => by
    have hs : ∀ F' H', Same F1 F' → Same F' H' → SqL K H' a xs := fun F' H' e1 e2 => SqL.of (e2 _ _ (e1 _ _ h2))
    refine ⟨a, h1, ⟨xs, SqL.of (g1.fh _ _ h2)⟩, q _ F1 H1 g1 ⟨fun i F' H' hi e1 e2 => ?_, fun F' H' e1 e2 => ?_, fun i P F' H' x H'' hP e1 e2 y => ?_⟩⟩
    · exact (walk_list (K := K) (a := a) (xs := xs)).goes i H' (by rw [← h3.len]; exact hi) (hs F' H' e1 e2)
    · have := (walk_list (K := K) (a := a) (xs := xs)).stops H' (hs F' H' e1 e2)
      rw [← h3.len] at this
      exact this
    · obtain ⟨w1, w2⟩ := (walk_list (K := K) (a := a) (xs := xs)).yields i H' x H'' (by rw [← h3.len]; exact getElem?_lt hP) (hs F' H' e1 e2) y
      subst w1
      obtain ⟨u, k1, k2⟩ := h3.get hP
      rw [w2] at k1
      cases k1
      exact ⟨F', .refl e2, P.up _ _ _ e1 k2⟩
/-- l.append(x), at the point -/
theorem append_at (R : RS F0 H0 F H σ Ps) (o : OpL l F H Qs) (ho : EvX ta Ps (Vl (.ref l))) (hx : EvX te Ps P) (hl : Qs.length < sizeLine) {Q : VK} (q : ∀ F' H', GrE [l] F H F' H' → OpL l F' H' (Qs ++ [P]) → Q .non H') : tBM K "list" rAppend ta (tCons te tNil) σ H Q :=
  ho F H σ R.fh R.sl _ fun x F1 H1 g1 p1 => by
    have e1 : x = .ref l := p1
    subst e1
    have o1 := o.step g1
    obtain ⟨f1, us, k1, k2⟩ := id o1
    refine ⟨.inl ⟨rfl, us, SqL.of k1⟩, hx F1 H1 σ g1.fh (R.sl.up g1.ff) _ fun y F2 H2 g2 p2 => ?_⟩
    obtain ⟨f2, vs, m1, m2⟩ := id (o1.step g2)
    refine ⟨l, vs, y, rfl, rfl, m1, by rw [← m2.len]; exact hl, q F2 _ (((GrE.of g1).trans (GrE.of g2)).trans (GrE.put g2.fh f2 m1)) ⟨f2, _, upd_same, m2.append (.cons p2 .nil)⟩⟩
theorem so_append (R : RS F0 H0 F H σ Ps) (o : OpL l F H Qs) (h0 : H0 l = none) (ho : EvX ta Ps (Vl (.ref l))) (hx : EvX te Ps P) (hl : Qs.length < sizeLine) (k : ∀ F' H', GrE [l] F H F' H' → RS F0 H0 F' H' σ Ps → OpL l F' H' (Qs ++ [P]) → D.nx σ H') : tDrop (tBM K "list" rAppend ta (tCons te tNil)) D σ H :=
  append_at R o ho hx hl fun F' H' g o' => k F' H' g (R.stepE (fun a ha => by rw [List.mem_singleton.mp ha]; exact h0) g) o'
/-- x = [..], to be open -/
theorem so_lst {i : Nat} {tl : TA} (R : RS F0 H0 F H σ Ps) (h : EvA tl Ps Qs) (hl : Qs.length ≤ sizeLine) (k : ∀ l F' H' σ', Gr F H F' H' → H0 l = none → RS F0 H0 F' H' σ' (Ps.set i (some (Vl (.ref l)))) → OpL l F' H' Qs → D.nx σ' H') : tAsg (tLst tl) (gName i) D σ H :=
  h F H σ R.fh R.sl _ fun vs F1 H1 g1 p1 => ⟨by rw [← p1.len]; exact hl, fun p hp => by
    have g2 : Gr F1 H1 F1 (upd H1 p (.lst vs)) := .open g1.fh hp
    have R2 := (R.step g1).step g2
    exact k p F1 _ _ (g1.trans g2) (R.gr.hh.free (g1.hh.free hp)) (R2.set i (P := Vl (.ref p)) rfl) ⟨g1.fh.free hp, vs, upd_same, p1⟩⟩
/-- x = {k: v} -/
theorem so_disp {P0 : Program} {w : World} {i : Nat} {t : T} (R : RS F0 H0 F H σ Ps) (hk : EvX ta Ps (Dat t)) (ky : Ky t) (hv : EvX tb Ps P) (k : ∀ d F' H' σ', Gr F H F' H' → H0 d = none → RS F0 H0 F' H' σ' (Ps.set i (some (Vl (.ref d)))) → OpD P0 w d F' H' [(t, P)] → D.nx σ' H') : tAsg (tDispN P0 w ta tb) (gName i) D σ H := fun p hp => by
  have g0 : Gr F H F (upd H p (DctO P0 w p [])) := .open R.fh hp
  have f0 : F p = none := R.fh.free hp
  have h0 : H0 p = none := R.gr.hh.free hp
  have R0 := R.step g0
  refine hk F _ σ R0.fh R0.sl _ fun x F1 H1 g1 p1 => hv F1 H1 σ g1.fh (R0.sl.up g1.ff) _ fun y F2 H2 g2 p2 => ?_
  have g12 := g1.trans g2
  have hp2 : H2 p = some (DctO P0 w p []) := g12.hh p _ upd_same
  have f2 : F2 p = none := g12.nw p (by rw [upd_same]; exact fun z => by cases z) f0
  have kr : KyR F2 x t := Ky.r ky (RT.up g2.ff _ _ p1)
  obtain ⟨⟨a, ea⟩, _⟩ := id kr
  refine ⟨hp2, F2, a, t, g2.fh, ea, kr, fun u ru => ?_⟩
  subst ea
  have g3 : GrE [p] F2 H2 F2 (upd H2 p (DctO P0 w p [(t.key, a, u)])) := GrE.put g2.fh f2 hp2
  have R3 : RS F0 H0 F2 (upd H2 p (DctO P0 w p [(t.key, a, u)])) σ Ps := (R0.step g12).stepE (fun b hb => by rw [List.mem_singleton.mp hb]; exact h0) g3
  have gg : Gr F H F2 (upd H2 p (DctO P0 w p [(t.key, a, u)])) := (g0.trans g12).put hp f2
  exact k p F2 _ _ gg h0 (R3.set i (P := Vl (.ref p)) rfl) ⟨f2, _, upd_same, .cons ⟨rfl, kr, y, p2, ru⟩ .nil⟩
/-- d[k] = v, the key not in it -/
theorem so_setD {P0 : Program} {w : World} {t : T} {kvs : List (T × Ty)} (R : RS F0 H0 F H σ Ps) (o : OpD P0 w d F H kvs) (h0 : H0 d = none) (hv : EvX te Ps P) (hd : EvX ta Ps (Vl (.ref d))) (hk : EvX tb Ps (Dat t)) (ky : Ky t) (hn : t.key ∉ kvs.map (·.1.key)) (hl : kvs.length < 100000)
    (k : ∀ F' H', GrE [d] F H F' H' → RS F0 H0 F' H' σ Ps → OpD P0 w d F' H' (kvs ++ [(t, P)]) → D.nx σ H') : tAsg te (gSub ta tb (rSetN P0 w)) D σ H :=
  hv F H σ R.fh R.sl _ fun v F1 H1 g1 p1 => hd F1 H1 σ g1.fh (R.sl.up g1.ff) _ fun x F2 H2 g2 p2 => hk F2 H2 σ g2.fh (R.sl.up (g1.ff.trans g2.ff)) _ fun y F3 H3 g3 p3 => by
    have g := (g1.trans g2).trans g3
    have e2 : x = .ref d := p2
    subst e2
    obtain ⟨f3, xs, k1, k2⟩ := o.step g
    have kr : KyR F3 y t := Ky.r ky p3
    obtain ⟨⟨a, ea⟩, _⟩ := id kr
    subst ea
    refine ⟨F3, d, xs, t, a, g3.fh, rfl, k1, k2.ok, rfl, kr, by rw [k2.keys]; exact hn, by rw [← k2.len]; exact hl, fun u ru => ?_⟩
    have gp : GrE [d] F3 H3 F3 (upd H3 d (DctO P0 w d (xs ++ [(t.key, a, u)]))) := GrE.put g3.fh f3 k1
    have ge := (GrE.of (A := [d]) g).trans gp
    exact k F3 _ ge (R.stepE (fun b hb => by rw [List.mem_singleton.mp hb]; exact h0) ge) ⟨f3, _, upd_same, KR.snoc ⟨rfl, kr, v, P.up _ _ _ (g2.ff.trans g3.ff) p1, ru⟩ k2⟩
theorem so_lstS {i : Nat} {tl : TA} (R : RS F0 H0 F H σ Ps) (h : EvA tl Ps Qs) (hl : Qs.length ≤ sizeLine) (k : ∀ l F' H' σ', Gr F H F' H' → H0 l = none → RS F0 H0 F' H' σ' (Ps.set i (some (Vl (.ref l)))) → OpL l F' H' Qs → t2 D σ' H') : tSeq (tAsg (tLst tl) (gName i)) t2 D σ H := so_lst R h hl k
theorem so_dispS {P0 : Program} {w : World} {i : Nat} {t : T} (R : RS F0 H0 F H σ Ps) (hk : EvX ta Ps (Dat t)) (ky : Ky t) (hv : EvX tb Ps P) (k : ∀ d F' H' σ', Gr F H F' H' → H0 d = none → RS F0 H0 F' H' σ' (Ps.set i (some (Vl (.ref d)))) → OpD P0 w d F' H' [(t, P)] → t2 D σ' H') : tSeq (tAsg (tDispN P0 w ta tb) (gName i)) t2 D σ H := so_disp R hk ky hv k
theorem so_setDS {P0 : Program} {w : World} {t : T} {kvs : List (T × Ty)} (R : RS F0 H0 F H σ Ps) (o : OpD P0 w d F H kvs) (h0 : H0 d = none) (hv : EvX te Ps P) (hd : EvX ta Ps (Vl (.ref d))) (hk : EvX tb Ps (Dat t)) (ky : Ky t) (hn : t.key ∉ kvs.map (·.1.key)) (hl : kvs.length < 100000)
    (k : ∀ F' H', GrE [d] F H F' H' → RS F0 H0 F' H' σ Ps → OpD P0 w d F' H' (kvs ++ [(t, P)]) → t2 D σ H') : tSeq (tAsg te (gSub ta tb (rSetN P0 w))) t2 D σ H := so_setD R o h0 hv hd hk ky hn hl k
theorem so_appendS (R : RS F0 H0 F H σ Ps) (o : OpL l F H Qs) (h0 : H0 l = none) (ho : EvX ta Ps (Vl (.ref l))) (hx : EvX te Ps P) (hl : Qs.length < sizeLine) (k : ∀ F' H', GrE [l] F H F' H' → RS F0 H0 F' H' σ Ps → OpL l F' H' (Qs ++ [P]) → t2 D σ H') : tSeq (tDrop (tBM K "list" rAppend ta (tCons te tNil))) t2 D σ H := so_append R o h0 ho hx hl k
/-- while, at most n turns -/
theorem so_while {n : Nat} (I : Nat → L2.St → Hp → Prop) (cond : Nat → Bool) (i0 : I 0 σ H) (test : ∀ i σ H, I i σ H → ∀ Q : Bool → Hp → Prop, (∀ H', I i σ H' → Q (cond i) H') → tc σ H Q)
    (turn : ∀ i σ H, I i σ H → cond i = true → i < n ∧ tu { D with nx := I (i + 1), ct := I (i + 1), bk := D.nx } σ H) (stop : ∀ i σ H, I i σ H → cond i = false → D.nx σ H) : tWhile tc tu D σ H := by
  refine ⟨fun m σ H => ∃ i, m = n - i ∧ I i σ H, ⟨n, 0, rfl, i0⟩, ?_⟩
  rintro m σ H ⟨i, rfl, h⟩
  refine test i σ H h _ fun H' h' => ?_
  cases e : cond i with
  | true =>
    obtain ⟨h1, h2⟩ := turn i σ H' h' e
    rw [if_pos rfl]
    exact ⟨I (i + 1), fun σ2 H2 p => ⟨n - (i + 1), by omega, i + 1, rfl, p⟩, h2⟩
  | false =>
    rw [if_neg Bool.false_ne_true]
    exact stop i σ H' h' e
theorem so_whileS {n : Nat} (I : Nat → L2.St → Hp → Prop) (cond : Nat → Bool) (i0 : I 0 σ H) (test : ∀ i σ H, I i σ H → ∀ Q : Bool → Hp → Prop, (∀ H', I i σ H' → Q (cond i) H') → tc σ H Q)
    (turn : ∀ i σ H, I i σ H → cond i = true → i < n ∧ tu { D with nx := I (i + 1), ct := I (i + 1), bk := t2 D } σ H) (stop : ∀ i σ H, I i σ H → cond i = false → t2 D σ H) : tSeq (tWhile tc tu) t2 D σ H := so_while (n := n) I cond i0 test turn stop
/-- return l, finished -/
theorem so_retL (R : RS F0 H0 F H σ Ps) (o : OpL l F H Qs) (h0 : H0 l = none) (hj : EvX te Ps (Vl (.ref l))) (k : ∀ v F' H', Gr F0 H0 F' H' → (LstP Qs).p F' v → D.rt v H') : tRet te D σ H :=
  hj F H σ R.fh R.sl _ fun v F1 H1 g1 p1 => by
    have e1 : v = .ref l := p1
    subst e1
    obtain ⟨F', h1, _, h3⟩ := (o.step g1).done (R.gr.trans g1) h0
    exact k _ F' H1 h1 h3
end
end G
set_option Elab.async false
set_option linter.all false
set_option maxRecDepth 100000
set_option maxHeartbeats 4000000
/-! The hand from which the law draws: a list that is written to by each draw; what is drawn is known by its bounds alone. -/
namespace G
open PySem PySem.Spec PyProof.Rows L2
open Enc (enc)
theorem AllP.set_ {H : Hp} {P : Ty} {v : V} : ∀ {Qs : List Ty} {vs : List V} {n : Nat}, AllP H Qs vs → P.p H v → AllP H (Qs.set n P) (vs.set n v)
  | _, _, _, .nil, _ => .nil
  | _, _, 0, .cons _ t, hv => .cons hv t
  | _, _, _ + 1, .cons h t, hv => .cons h (AllP.set_ t hv)
/-! ### one of several -/
def ExT {β : Type} (p : β → Prop) (f : β → Ty) : Ty := ⟨fun F v => ∃ b, p b ∧ (f b).p F v, fun F F' v e ⟨b, h1, h2⟩ => ⟨b, h1, (f b).up F F' v e h2⟩⟩
/-- a number below n -/
abbrev LtT (n : Nat) : Ty := ExT (fun d : Nat => d < n) fun d => Dat (.int (d : Int))
section
variable {β : Type} {p : β → Prop} {f : β → Ty} {F0 H0 F H : Hp} {σ : L2.St} {Ps : Tys} {i : Nat}
theorem RS.open_ (R : RS F0 H0 F H σ Ps) (h : Ps[i]? = some (some (ExT p f))) : ∃ b, p b ∧ RS F0 H0 F H σ (Ps.set i (some (f b))) := by
  obtain ⟨v, h1, b, h2, h3⟩ := R.sl.at_ i _ h
  refine ⟨b, h2, R.gr, ⟨by rw [List.length_set]; exact R.sl.len, fun j Q q => ?_⟩⟩
  by_cases e : i = j
  · subst e
    rw [List.getElem?_set_self (getElem?_lt h)] at q
    have : f b = Q := Option.some.inj (Option.some.inj q)
    subst this
    exact ⟨v, h1, h3⟩
  · rw [List.getElem?_set_ne e] at q
    exact R.sl.at_ j Q q
end
theorem ex_open {β : Type} {p : β → Prop} {f : β → Ty} {F : Hp} {v : V} (h : (ExT p f).p F v) : ∃ b, p b ∧ (f b).p F v := h
/-! ### the hand -/
abbrev handT (cs : List Int) (i : Nat) (r s k : Int) : List Ty := [LstP (cs.map fun x => Dat (.int x)), Dat (.int (i : Int)), Dat (.int r), Dat (.int s), Dat (.int k)]
def HandOk (h : Addr) (F H : Hp) : Prop := ∃ cs i r s k, OpL h F H (handT cs i r s k)
section
variable {h : Addr} {F H F' H' : Hp} {A : List Addr}
theorem HandOk.step (o : HandOk h F H) (g : Gr F H F' H') : HandOk h F' H' := let ⟨a, b, c, d, e, o⟩ := o; ⟨a, b, c, d, e, o.step g⟩
theorem HandOk.stepE (o : HandOk h F H) (n : h ∉ A) (g : GrE A F H F' H') : HandOk h F' H' := let ⟨a, b, c, d, e, o⟩ := o; ⟨a, b, c, d, e, o.stepE n g⟩
theorem HandOk.free (o : HandOk h F H) : F h = none := let ⟨_, _, _, _, _, o⟩ := o; o.1
theorem HandOk.some (o : HandOk h F H) : H h ≠ none := let ⟨_, _, _, _, _, o⟩ := o; o.some
theorem HandOk.ne {l : Addr} (o : HandOk h F H) (hl : H l = none) : l ≠ h := fun z => o.some (by rw [← z]; exact hl)
end
/-- growth, but for the hand -/
theorem Gr.unhid {h : Addr} {F H F' H' : Hp} (g : Gr F (hid H h) F' H') (o : HandOk h F' H') : GrE [h] F H F' H' :=
  ⟨g.ff, fun b u n q => g.hh b u (by rw [hid_ne (fun z => n (by rw [z]; exact List.mem_singleton.mpr rfl))]; exact q), g.fh, fun a hx hf => by
    by_cases c : a = h
    · rw [c]; exact o.free
    · exact g.nw a (by rw [hid_ne c]; exact hx) hf, fun a hx => by
    by_cases c : a = h
    · rw [c]; exact o.some
    · cases e : H a with
      | none => exact absurd e hx
      | some u => rw [g.hh a u (by rw [hid_ne c]; exact e)]; exact fun z => by cases z⟩
/-! ### evaluating while the hand may turn -/
def EvH (h : Addr) (te : TE) (Ps : Tys) (P : Ty) : Prop := ∀ F H σ, Same F H → Slots F σ Ps → HandOk h F H → ∀ Q : VK, (∀ v F' H', GrE [h] F H F' H' → HandOk h F' H' → P.p F' v → Q v H') → te σ H Q
def AvH (h : Addr) (ta : TA) (Ps : Tys) (Rs : List Ty) : Prop := ∀ F H σ, Same F H → Slots F σ Ps → HandOk h F H → ∀ Q : List V → Hp → Prop, (∀ vs F' H', GrE [h] F H F' H' → HandOk h F' H' → AllP F' Rs vs → Q vs H') → ta σ H Q
def TvH (h : Addr) (tt : TT) (Ps : Tys) (φ : Bool → Prop) : Prop := ∀ F H σ, Same F H → Slots F σ Ps → HandOk h F H → ∀ Q : Bool → Hp → Prop, (∀ b F' H', φ b → GrE [h] F H F' H' → HandOk h F' H' → Q b H') → tt σ H Q
section
variable {K : PySem.W.Frag} {h : Addr} {Ps : Tys} {P P' R : Ty} {te ta tb : TE} {tl : TA} {tt tu : TT} {Qs Rs : List Ty} {b c : Bool} {φ ψ χ : Bool → Prop} {i j : Int}
theorem EvH.imp (e : EvH h te Ps P) (k : ∀ F v, P.p F v → P'.p F v) : EvH h te Ps P' := fun F H σ s l o Q q => e F H σ s l o Q fun v F' H' g o' p => q v F' H' g o' (k F' v p)
theorem h_x (e : EvX te Ps P) : EvH h te Ps P := fun F H σ s l o Q q => e F H σ s l _ fun v F' H' g p => q v F' H' (.of g) (o.step g) p
theorem h_t (e : EvT tt Ps b) : TvH h tt Ps fun c => c = b := fun F H σ s l o Q q => e F H σ s l _ fun F' H' g => q b F' H' rfl (.of g) (o.step g)
theorem ha_nil : AvH h tNil Ps [] := fun F H σ s l o Q q => q [] F H (.of (.refl s)) o .nil
theorem ha_cons (e : EvH h te Ps P) (r : AvH h tl Ps Qs) : AvH h (tCons te tl) Ps (P :: Qs) := fun F H σ s l o Q q =>
  e F H σ s l o _ fun v F1 H1 g1 o1 p1 => r F1 H1 σ g1.fh (l.up g1.ff) o1 _ fun vs F2 H2 g2 o2 p2 => q (v :: vs) F2 H2 (g1.trans g2) o2 (.cons (P.up _ _ _ g2.ff p1) p2)
theorem slots1 {F : Hp} {x : V} (p : P.p F x) : Slots F [some x] [some P] := ⟨rfl, fun i Q q => by
  match i with
  | 0 => cases q; exact ⟨x, rfl, p⟩
  | _ + 1 => simp at q⟩
theorem slots2 {F : Hp} {x y : V} (p : P.p F x) (p' : P'.p F y) : Slots F [some x, some y] [some P, some P'] := ⟨rfl, fun i Q q => by
  match i with
  | 0 => cases q; exact ⟨x, rfl, p⟩
  | 1 => cases q; exact ⟨y, rfl, p'⟩
  | _ + 2 => simp at q⟩
/-- an operation by its values -/
theorem op_of {r : R2} (e : EvX (tOp r (tVar 0) (tVar 1)) [some P, some P'] R) {F H : Hp} {x y : V} (s : Same F H) (p : P.p F x) (p' : P'.p F y) {Q : VK} (q : ∀ v F' H', Gr F H F' H' → R.p F' v → Q v H') : r x y H Q := by
  obtain ⟨v, h1, w, h2, h3⟩ := e F H [some x, some y] s (slots2 p p') Q q
  cases h1
  cases h2
  exact h3
theorem cb_of {r : List V → Hp → VK → Prop} (e : EvX (tCB r (tCons (tVar 0) tNil)) [some P] R) {F H : Hp} {x : V} (s : Same F H) (p : P.p F x) {Q : VK} (q : ∀ v F' H', Gr F H F' H' → R.p F' v → Q v H') : r [x] H Q := by
  obtain ⟨v, h1, h3⟩ := e F H [some x] s (slots1 p) Q q
  cases h1
  exact h3
theorem cb2_of {r : List V → Hp → VK → Prop} (e : EvX (tCB r (tCons (tVar 0) (tCons (tVar 1) tNil))) [some P, some P'] R) {F H : Hp} {x y : V} (s : Same F H) (p : P.p F x) (p' : P'.p F y) {Q : VK} (q : ∀ v F' H', Gr F H F' H' → R.p F' v → Q v H') : r [x, y] H Q := by
  obtain ⟨v, h1, w, h2, h3⟩ := e F H [some x, some y] s (slots2 p p') Q q
  cases h1
  cases h2
  exact h3
section
variable {β γ : Type} {p : β → Prop} {f : β → Ty} {p' : γ → Prop} {f' : γ → Ty}
/-- e op e', both may draw -/
theorem h_op {r : R2} (e : EvH h ta Ps (ExT p f)) (e' : EvH h tb Ps (ExT p' f')) (k : ∀ b c, p b → p' c → EvX (tOp r (tVar 0) (tVar 1)) [some (f b), some (f' c)] R) : EvH h (tOp r ta tb) Ps R := fun F H σ s l o Q q =>
  e F H σ s l o _ fun x F1 H1 g1 o1 p1 => e' F1 H1 σ g1.fh (l.up g1.ff) o1 _ fun y F2 H2 g2 o2 p2 => by
    obtain ⟨b, b1, b2⟩ := p1
    obtain ⟨c, c1, c2⟩ := p2
    exact op_of (k b c b1 c1) g2.fh ((f b).up _ _ _ g2.ff b2) c2 fun v F3 H3 g3 p3 => q v F3 H3 ((g1.trans g2).trans (.of g3)) (o2.step g3) p3
/-- the left one draws -/
theorem h_opL {r : R2} (e : EvH h ta Ps (ExT p f)) (e' : EvX tb Ps P') (k : ∀ b, p b → EvX (tOp r (tVar 0) (tVar 1)) [some (f b), some P'] R) : EvH h (tOp r ta tb) Ps R := fun F H σ s l o Q q =>
  e F H σ s l o _ fun x F1 H1 g1 o1 p1 => e' F1 H1 σ g1.fh (l.up g1.ff) _ fun y F2 H2 g2 p2 => by
    obtain ⟨b, b1, b2⟩ := p1
    exact op_of (k b b1) g2.fh ((f b).up _ _ _ g2.ff b2) p2 fun v F3 H3 g3 p3 => q v F3 H3 ((g1.trans (.of g2)).trans (.of g3)) ((o1.step g2).step g3) p3
/-- the right one draws -/
theorem h_opR {r : R2} (e : EvX ta Ps P') (e' : EvH h tb Ps (ExT p f)) (k : ∀ b, p b → EvX (tOp r (tVar 0) (tVar 1)) [some P', some (f b)] R) : EvH h (tOp r ta tb) Ps R := fun F H σ s l o Q q =>
  e F H σ s l _ fun x F1 H1 g1 p1 => e' F1 H1 σ g1.fh (l.up g1.ff) (o.step g1) _ fun y F2 H2 g2 o2 p2 => by
    obtain ⟨b, b1, b2⟩ := p2
    exact op_of (k b b1) g2.fh (P'.up _ _ _ g2.ff p1) b2 fun v F3 H3 g3 p3 => q v F3 H3 (((GrE.of g1).trans g2).trans (.of g3)) (o2.step g3) p3
theorem h_cb {r : List V → Hp → VK → Prop} (e : EvH h te Ps (ExT p f)) (k : ∀ b, p b → EvX (tCB r (tCons (tVar 0) tNil)) [some (f b)] R) : EvH h (tCB r (tCons te tNil)) Ps R := fun F H σ s l o Q q =>
  e F H σ s l o _ fun x F1 H1 g1 o1 p1 => by
    obtain ⟨b, b1, b2⟩ := p1
    exact cb_of (k b b1) g1.fh b2 fun v F2 H2 g2 p2 => q v F2 H2 (g1.trans (.of g2)) (o1.step g2) p2
theorem h_cbR {r : List V → Hp → VK → Prop} (e : EvX ta Ps P') (e' : EvH h tb Ps (ExT p f)) (k : ∀ b, p b → EvX (tCB r (tCons (tVar 0) (tCons (tVar 1) tNil))) [some P', some (f b)] R) : EvH h (tCB r (tCons ta (tCons tb tNil))) Ps R := fun F H σ s l o Q q =>
  e F H σ s l _ fun x F1 H1 g1 p1 => e' F1 H1 σ g1.fh (l.up g1.ff) (o.step g1) _ fun y F2 H2 g2 o2 p2 => by
    obtain ⟨b, b1, b2⟩ := p2
    exact cb2_of (k b b1) g2.fh (P'.up _ _ _ g2.ff p1) b2 fun v F3 H3 g3 p3 => q v F3 H3 (((GrE.of g1).trans g2).trans (.of g3)) (o2.step g3) p3
end
theorem ex_imp {β γ : Type} {p : β → Prop} {f : β → Ty} {p' : γ → Prop} {f' : γ → Ty} (m : β → γ) (h1 : ∀ b, p b → p' (m b)) (h2 : ∀ b F v, p b → (f b).p F v → (f' (m b)).p F v) : ∀ F v, (ExT p f).p F v → (ExT p' f').p F v := fun F v ⟨b, a1, a2⟩ => ⟨m b, h1 b a1, h2 b F v a1 a2⟩
theorem x_ex {β : Type} {p : β → Prop} {f : β → Ty} (b : β) (hb : p b) (e : EvX te Ps (f b)) : EvX te Ps (ExT p f) := e.imp fun _ _ q => ⟨b, hb, q⟩
theorem h_tup (e : AvH h tl Ps Qs) (hl : Qs.length ≤ sizeLine) : EvH h (tTup tl) Ps (TupP Qs) := fun F H σ s l o Q q =>
  e F H σ s l o _ fun vs F1 H1 g1 o1 p1 => ⟨by rw [← p1.len]; exact hl, fun p hp => by
    have g2 : Gr F1 H1 _ _ := .new (o := .tup vs) g1.fh hp
    exact q _ _ _ (g1.trans (.of g2)) (o1.step g2) ⟨p, vs, rfl, upd_same, p1.up (Same.upd_new (g1.fh.free hp))⟩⟩
theorem h_lst (e : AvH h tl Ps Qs) (hl : Qs.length ≤ sizeLine) : EvH h (tLst tl) Ps (LstP Qs) := fun F H σ s l o Q q =>
  e F H σ s l o _ fun vs F1 H1 g1 o1 p1 => ⟨by rw [← p1.len]; exact hl, fun p hp => by
    have g2 : Gr F1 H1 _ _ := .new (o := .lst vs) g1.fh hp
    exact q _ _ _ (g1.trans (.of g2)) (o1.step g2) ⟨p, vs, rfl, upd_same, p1.up (Same.upd_new (g1.fh.free hp))⟩⟩
/-- tests -/
theorem h_test (e : EvH h te Ps (ExT (fun b : Bool => φ b) fun b => Dat (.bl b))) : TvH h (tTest te) Ps φ := fun F H σ s l o Q q => e F H σ s l o _ fun v F1 H1 g1 o1 ⟨b, b1, b2⟩ => ⟨b, dat_bl b2, q b F1 H1 b1 g1 o1⟩
theorem h_and (e : TvH h tt Ps φ) (e' : TvH h tu Ps ψ) (h1 : ∀ b, φ true → ψ b → χ b) (h2 : φ false → χ false) : TvH h (tAnd tt tu) Ps χ := fun F H σ s l o Q q => e F H σ s l o _ fun b F1 H1 b1 g1 o1 => by
  cases b with
  | true => exact e' F1 H1 σ g1.fh (l.up g1.ff) o1 Q fun c F2 H2 c1 g2 o2 => q c F2 H2 (h1 c b1 c1) (g1.trans g2) o2
  | false => exact q false F1 H1 (h2 b1) g1 o1
end
/-! ### promises of defs that draw -/
section
variable {ι : Type}
def SpH (pre : ι → Prop) (args : ι → List Ty) (out : ι → Ty) : Sp := fun vs H Q _ => ∃ i F h us, pre i ∧ vs = .ref h :: us ∧ Same F H ∧ HandOk h F H ∧ AllP F (args i) us ∧ ∀ v F' H', GrE [h] F H F' H' → HandOk h F' H' → (out i).p F' v → Q v H'
end
section
variable {K : PySem.W.Frag} {h : Addr} {Ps : Tys} {P P' R : Ty} {te ta tb : TE} {tl : TA} {Qs Rs : List Ty} {ι : Type} {pre : ι → Prop} {args : ι → List Ty} {out : ι → Ty}
theorem h_call {E : XK} (h1 : EvX ta Ps (Vl (.ref h))) (h2 : AvH h tl Ps Rs) (hi : ∀ F us, AllP F Rs us → ∃ i, pre i ∧ AllP F (args i) us ∧ ∀ F v, (out i).p F v → P.p F v) : EvH h (tCall (SpH pre args out) [] E (tCons ta tl)) Ps P := fun F H σ s l o Q q =>
  h1 F H σ s l _ fun v F1 H1 g1 p1 => by
    have e1 : v = .ref h := p1
    subst e1
    refine h2 F1 H1 σ g1.fh (l.up g1.ff) (o.step g1) _ fun us F2 H2 g2 o2 p2 => ?_
    obtain ⟨i, k1, k2, k3⟩ := hi F2 us p2
    exact ⟨i, F2, h, us, k1, by rw [List.append_nil], g2.fh, o2, k2, fun v F3 H3 g3 o3 p3 => q v F3 H3 (((GrE.of g1).trans g2).trans g3) o3 (k3 F3 v p3)⟩
theorem h_callX {E : XK} (i : ι) (hp : pre i) (h1 : EvX ta Ps (Vl (.ref h))) (h2 : EvA tl Ps (args i)) (hP : out i = P) : EvH h (tCall (SpH pre args out) [] E (tCons ta tl)) Ps P := by
  subst hP
  refine h_call h1 (Rs := args i) (fun F H σ s l o Q q => h2 F H σ s l _ fun vs F' H' g p => q vs F' H' (.of g) (o.step g) p) fun F us p => ⟨i, hp, p, fun F v q => q⟩
end
section
variable {P : Program} {w : World} {K : PySem.W.Frag} {mg : Str → Option Value} {base : Heap} {x qual : Str} {st : Stmt} {f C : Addr} {fd : FuncData} {N ps : List Str} {k : Nat} {ι : Type} {pre : ι → Prop} {args : ι → List Ty} {out : ι → Ty}
theorem okH (F : Fun K x qual st f fd) (S : FnScope N ps (defScope st)) (len : ∀ i, (args i).length + 1 = ps.length)
    (hbody : ∀ (cdv : Value) (A : Around) (outer : List Env) (s : Shared) (H : Hp) (E : XK), Room k (A.deeper (envOfC qual (defScope st) s.heap.objs.size f cdv)) →
      ∃ t, PSs (cxOf CX0 P w K mg base N qual (defScope st) f cdv A outer s H E).nox (defBody st) t ∧
        ∀ i F h vs Q, pre i → hid H h h = none → RS F (hid H h) F H (start N vs) (stT N (Vl (.ref h) :: args i)) → HandOk h F H → (∀ v F' H', Gr F (hid H h) F' H' → HandOk h F' H' → (out i).p F' v → Q v H') → t { nx := fun _ H' => Q .non H', rt := Q } (start N vs) H) : FnOk P w K mg base CX0 (k + 1) f fd ps (SpH pre args out) := by
  refine F.ok S (fun vs H Q E hh => ?_) (fun cdv A outer s H vs Q E hr hh => ?_)
  · obtain ⟨i, F, h, us, _, rfl, _, _, hv, _⟩ := hh
    rw [List.length_cons, ← hv.len, len]
  · obtain ⟨i, F, h, us, hp, rfl, e, ho, hv, q⟩ := hh
    obtain ⟨t, d, r⟩ := hbody cdv A outer s H E hr
    refine ⟨t, d, r i F h _ Q hp hid_same ⟨⟨.refl _, fun b o z => ?_, e, fun _ _ z => z⟩, slots_st (Ps := Vl (.ref h) :: args i) (.cons rfl hv) N⟩ ho fun v F' H' g o p => q v F' H' (g.unhid o) o p⟩
    by_cases hb : b = h
    · subst hb
      rw [hid_same] at z
      cases z
    · rw [hid_ne hb] at z
      exact z
end
/-! ### statements -/
section
variable {K : PySem.W.Frag} {h : Addr} {Ps : Tys} {P P' R : Ty} {te ta tb : TE} {tl : TA} {tc : TT} {F0 H0 F H : Hp} {σ : L2.St} {D : Ends} {tu tw t2 : TS} {Qs Rs : List Ty} {φ : Bool → Prop}
theorem RS.stepH {F' H' : Hp} (R : RS F0 H0 F H σ Ps) (h0 : H0 h = none) (g : GrE [h] F H F' H') : RS F0 H0 F' H' σ Ps := R.stepE (fun a ha => by rw [List.mem_singleton.mp ha]; exact h0) g
theorem sh_asg {i : Nat} (R : RS F0 H0 F H σ Ps) (o : HandOk h F H) (h0 : H0 h = none) (e : EvH h te Ps P) (k : ∀ F' H' σ', GrE [h] F H F' H' → RS F0 H0 F' H' σ' (Ps.set i (some P)) → HandOk h F' H' → D.nx σ' H') : tAsg te (gName i) D σ H :=
  e F H σ R.fh R.sl o _ fun v F1 H1 g1 o1 p1 => k F1 H1 _ g1 ((R.stepH h0 g1).set i p1) o1
theorem sh_asgX {β : Type} {p : β → Prop} {f : β → Ty} {i : Nat} (R : RS F0 H0 F H σ Ps) (o : HandOk h F H) (h0 : H0 h = none) (e : EvH h te Ps (ExT p f)) (k : ∀ b F' H' σ', p b → GrE [h] F H F' H' → RS F0 H0 F' H' σ' (Ps.set i (some (f b))) → HandOk h F' H' → t2 D σ' H') : tSeq (tAsg te (gName i)) t2 D σ H :=
  e F H σ R.fh R.sl o _ fun v F1 H1 g1 o1 p1 => by
    obtain ⟨b, b1, b2⟩ := p1
    exact k b F1 H1 _ b1 g1 ((R.stepH h0 g1).set i b2) o1
theorem sh_ret (R : RS F0 H0 F H σ Ps) (o : HandOk h F H) (h0 : H0 h = none) (e : EvH h te Ps P) (k : ∀ v F' H', Gr F0 H0 F' H' → HandOk h F' H' → P.p F' v → D.rt v H') : tRet te D σ H :=
  e F H σ R.fh R.sl o _ fun v F1 H1 g1 o1 p1 => k v F1 H1 (R.stepH h0 g1).gr o1 p1
theorem sh_par {β γ : Type} {p : β → Prop} {f : β → Ty} {p' : γ → Prop} {f' : γ → Ty} {i j : Nat} (R : RS F0 H0 F H σ Ps) (o : HandOk h F H) (h0 : H0 h = none) (e : AvH h tl Ps [ExT p f, ExT p' f']) (k : ∀ b c F' H' σ', p b → p' c → RS F0 H0 F' H' σ' ((Ps.set i (some (f b))).set j (some (f' c))) → HandOk h F' H' → t2 D σ' H') : tSeq (tPar i j tl) t2 D σ H :=
  e F H σ R.fh R.sl o _ fun vs F1 H1 g1 o1 p1 => by
    cases p1 with
    | cons p1 p2 =>
      cases p2 with
      | cons p2 p3 =>
        cases p3
        obtain ⟨b, b1, b2⟩ := p1
        obtain ⟨c, c1, c2⟩ := p2
        exact ⟨_, _, rfl, k b c F1 H1 _ b1 c1 (((R.stepH h0 g1).set i b2).set j c2) o1⟩
/-- a, b, c = what is drawn -/
theorem sh_unp {β : Type} {p : β → Prop} {f : β → List Ty} {is : List Nat} {n : Nat} (R : RS F0 H0 F H σ Ps) (o : HandOk h F H) (h0 : H0 h = none) (e : EvH h te Ps (ExT p fun b => TupP (f b))) (hn : ∀ b, (f b).length = n) (hl : is.length = n) (k : ∀ b F' H' σ', p b → GrE [h] F H F' H' → RS F0 H0 F' H' σ' (setsT Ps is (f b)) → HandOk h F' H' → t2 D σ' H') : tSeq (tAsg te (gTup K n (gNs is))) t2 D σ H :=
  e F H σ R.fh R.sl o _ fun v F1 H1 g1 o1 ⟨b, b1, a, xs, h1, h2, h3⟩ =>
    ⟨a, xs, h1, SqT.of (g1.fh _ _ h2), by rw [← h3.len, hn], gNs_ok (by rw [← h3.len, hn, hl]) (k b F1 H1 _ b1 g1 ⟨(R.stepH h0 g1).gr, (R.stepH h0 g1).sl.sets h3⟩ o1)⟩
theorem sh_if (R : RS F0 H0 F H σ Ps) (o : HandOk h F H) (h0 : H0 h = none) (e : TvH h tc Ps φ) (h1 : φ true → ∀ F' H', GrE [h] F H F' H' → RS F0 H0 F' H' σ Ps → HandOk h F' H' → tu D σ H') (h2 : φ false → ∀ F' H', GrE [h] F H F' H' → RS F0 H0 F' H' σ Ps → HandOk h F' H' → tw D σ H') : tIfS tc tu tw D σ H :=
  e F H σ R.fh R.sl o _ fun b F1 H1 b1 g1 o1 => by
    cases b with
    | true => exact h1 b1 F1 H1 g1 (R.stepH h0 g1) o1
    | false => exact h2 b1 F1 H1 g1 (R.stepH h0 g1) o1
/-- l[i] = e, l open -/
theorem so_setL {l : Addr} {n : Nat} (R : RS F0 H0 F H σ Ps) (o : OpL l F H Qs) (h0 : H0 l = none) (hv : EvX te Ps P) (hl : EvX ta Ps (Vl (.ref l))) (hi : EvX tb Ps (Dat (.int (n : Int)))) (hn : n < Qs.length)
    (k : ∀ F' H', GrE [l] F H F' H' → RS F0 H0 F' H' σ Ps → OpL l F' H' (Qs.set n P) → D.nx σ H') : tAsg te (gSub ta tb rSetL) D σ H :=
  hv F H σ R.fh R.sl _ fun v F1 H1 g1 p1 => hl F1 H1 σ g1.fh (R.sl.up g1.ff) _ fun x F2 H2 g2 p2 => hi F2 H2 σ g2.fh (R.sl.up (g1.ff.trans g2.ff)) _ fun y F3 H3 g3 p3 => by
    have g := (g1.trans g2).trans g3
    have e2 : x = .ref l := p2
    subst e2
    obtain ⟨f3, us, k1, k2⟩ := o.step g
    refine ⟨l, us, n, n, rfl, dat_int p3, k1, by rw [← k2.len]; exact ixN_at hn, ?_⟩
    have ge := (GrE.of (A := [l]) g).trans (GrE.put g3.fh f3 k1 (o := .lst (us.set n v)))
    exact k F3 _ ge (R.stepE (fun b hb => by rw [List.mem_singleton.mp hb]; exact h0) ge) ⟨f3, _, upd_same, AllP.set_ k2 (P.up _ _ _ (g2.ff.trans g3.ff) p1)⟩
end
end G
set_option Elab.async false
set_option linter.all false
set_option maxRecDepth 100000
set_option maxHeartbeats 4000000
/-! Comprehensions that draw. -/
namespace G
open PySem PySem.Spec PyProof.Rows L2
open Enc (enc)
/-- what is made is a new list, open -/
def EvHL (h : Addr) (te : TE) (Ps : Tys) (J : List Ty → Prop) : Prop := ∀ F H σ, Same F H → Slots F σ Ps → HandOk h F H → ∀ Q : VK, (∀ ls D F' H', J ls → GrE [h] F H F' H' → HandOk h F' H' → H D = none → OpL D F' H' ls → Q (.ref D) H') → te σ H Q
theorem GrE.putNew {A : List Addr} {F H F' H' : Hp} {p : Addr} {o : HO} (g : GrE A F H F' H') (h0 : H p = none) (hf : F' p = none) : GrE A F H F' (upd H' p o) :=
  ⟨g.ff, fun b u n q => by rw [upd_ne (ne_of_none q h0)]; exact g.hh b u n q, fun b u q => by rw [upd_ne (ne_of_none q hf)]; exact g.fh b u q, g.nw, fun a ha => by
    rw [upd_ne (fun z => ha (by rw [z]; exact h0))]; exact g.up a ha⟩
theorem GrE.freeze {A : List Addr} {F H F' H' : Hp} {p : Addr} {o : HO} (g : GrE A F H F' H') (h0 : H p = none) (hf : F' p = none) (hp : H' p = some o) : GrE A F H (upd F' p o) H' :=
  ⟨fun b u q => by rw [upd_ne (ne_of_none (g.ff b u q) hf)]; exact g.ff b u q, g.hh, fun b u q => by
    by_cases hb : b = p
    · subst hb; rw [upd_same] at q; rw [hp]; exact q
    · rw [upd_ne hb] at q; exact g.fh b u q, fun b hb hF => by
    have : b ≠ p := fun z => hb (by rw [z]; exact h0)
    rw [upd_ne this]; exact g.nw b hb hF, g.up⟩
section
variable {K : PySem.W.Frag} {h : Addr} {Ps : Tys} {P : Ty} {te : TE} {tt : TT} {wi : TI} {g : TG} {vs is : List Nat} {J : List Ty → Prop}
theorem EvHL.frozen (e : EvHL h te Ps J) (k : ∀ ls, J ls → ∀ F v, (LstP ls).p F v → P.p F v) : EvH h te Ps P := fun F H σ s l o Q q => e F H σ s l o _ fun ls D F1 H1 j g1 o1 hD d => by
  obtain ⟨k1, us, k2, k3⟩ := d
  have nD : h ≠ D := fun z => o.some (by rw [z]; exact hD)
  obtain ⟨cs, i, r, s', kk, f1, ws, f2, f3⟩ := o1
  exact q _ _ _ (g1.freeze hD k1 k2) ⟨cs, i, r, s', kk, by rw [upd_ne nD]; exact f1, ws, f2, f3.up (Same.upd_new k1)⟩ (k ls j _ _ ⟨D, us, rfl, upd_same, k3.up (Same.upd_new k1)⟩)
/-- what is walked may be drawn -/
def EvIH (h : Addr) (wi : TI) (Ps : Tys) {γ α : Type} (pc : γ → Prop) (xs : γ → List α) (ι : α → Ty) : Prop := ∀ F H σ, Same F H → Slots F σ Ps → HandOk h F H → ∀ Z : It → Hp → Prop, (∀ c J F' H', pc c → GrE [h] F H F' H' → HandOk h F' H' → WalkI J F' ((xs c).map ι) → Z J H') → wi σ H Z
theorem ih_x {α : Type} {xs : List α} {ι : α → Ty} (hi : EvI wi Ps (xs.map ι)) : EvIH h wi Ps (fun _ : Unit => True) (fun _ => xs) ι := fun F H σ e s o Z q => hi F H σ e s Z fun J F' H' g w => q () J F' H' trivial (.of g) (o.step g) w
theorem ih_range {p : Nat → Prop} {tl : TE} (e : EvH h tl Ps (ExT p fun n : Nat => Dat (.int (n : Int)))) (hn : ∀ n, p n → n < 2 ^ 62) : EvIH h (iRng1 (tCons tl tNil)) Ps p (fun n => List.range n) (fun (k : Nat) => Dat (.int (k : Int))) := fun F H σ s l o Z q =>
  e F H σ s l o _ fun v F1 H1 g1 o1 ⟨n, n1, n2⟩ => by
    have := i_range (tl := tCons (tVar 0) tNil) (Ps := [some (Dat (.int (n : Int)))]) (n := n) (a_cons (x_var rfl) a_nil) (hn n n1) F1 H1 [some v] g1.fh (slots1 n2) Z fun J F2 H2 g2 w => q n J F2 H2 n1 (g1.trans (.of g2)) (o1.step g2) w
    obtain ⟨u, h1, h2⟩ := this
    cases h1
    exact h2
theorem h_yes : TvH h tYes Ps fun b => b = true := fun F H σ e s o Q q => q true F H rfl (.of (.refl e)) o
theorem lcH {γ α β : Type} (pc : γ → Prop) (xs : γ → List α) {ι : α → Ty} {ts : α → List Ty} (hi : EvIH h wi Ps pc xs ι) (hg : ∀ c, pc c → ∀ a ∈ xs c, Tgt K g is (ι a) (ts a)) (hsub : ∀ i ∈ is, i ∈ vs) (hz : ∀ c, pc c → (xs c).length < sizeLine)
    (f : β → Ty) (I : γ → Nat → List β → Prop) (φ : γ → α → Bool → Prop) (p : γ → α → β → Prop) (i0 : ∀ c, pc c → I c 0 [])
    (ht : ∀ (c : γ) (i : Nat) (a : α), pc c → (xs c)[i]? = some a → TvH h tt (setsT (wipeT Ps vs) is (ts a)) (φ c a))
    (he : ∀ (c : γ) (i : Nat) (a : α), pc c → (xs c)[i]? = some a → φ c a true → EvH h te (setsT (wipeT Ps vs) is (ts a)) (ExT (p c a) f))
    (skip : ∀ (c : γ) (i : Nat) (a : α) (l : List β), pc c → (xs c)[i]? = some a → φ c a false → I c i l → I c (i + 1) l)
    (add : ∀ (c : γ) (i : Nat) (a : α) (b : β) (l : List β), pc c → (xs c)[i]? = some a → φ c a true → p c a b → I c i l → I c (i + 1) (l ++ [b]))
    (len : ∀ c i l, I c i l → l.length ≤ i) : EvHL h (tLc wi g tt te vs) Ps fun ls => ∃ c l, pc c ∧ I c (xs c).length l ∧ ls = l.map f := by
  intro F H σ e s o Q q
  refine hi F H σ e s o _ fun c J F1 H1 hc g1 o1 w D hD => ?_
  have fD : F1 D = none := g1.fh.free hD
  have nD : D ≠ h := o1.ne hD
  have nDm : D ∉ [h] := fun z => nD (List.mem_singleton.mp z)
  refine ⟨fun i m H' => m = (xs c).length - i ∧ i ≤ (xs c).length ∧ ∃ F' l, GrE [h] F1 H1 F' H' ∧ HandOk h F' H' ∧ OpL D F' H' (l.map f) ∧ I c i l, ⟨_, rfl, Nat.zero_le _, F1, [], .of (.open g1.fh hD), o1.step (.open g1.fh hD), ⟨fD, [], upd_same, .nil⟩, i0 c hc⟩, ?_⟩
  rintro i m H' ⟨rfl, hle, F', l, g', o', d', I'⟩
  by_cases hlt : i < (xs c).length
  · refine .inr ⟨w.goes i F' H' (by rw [List.length_map]; exact hlt) g'.ff g'.fh, fun H2 => ∃ F2 l, GrE [h] F1 H1 F2 H2 ∧ HandOk h F2 H2 ∧ OpL D F2 H2 (l.map f) ∧ I c (i + 1) l, fun H2 p => ⟨(xs c).length - (i + 1), by omega, rfl, hlt, p⟩, fun x H2 y => ?_⟩
    have ha : (xs c)[i]? = some (xs c)[i] := List.getElem?_eq_getElem hlt
    have hm : (xs c)[i] ∈ xs c := List.getElem_mem hlt
    obtain ⟨F2, g2, p2⟩ := w.yields i (ι (xs c)[i]) F' H' x H2 (by rw [List.getElem?_map, ha]; rfl) g'.ff g'.fh y
    refine (hg c hc _ hm).run (σ := L2.wipe σ vs) g2.fh p2 fun us hus => ⟨by rw [wipe_sets hsub, wipe_wipe], ?_⟩
    have s2 : Slots F2 (setsV (L2.wipe σ vs) is us) (setsT (wipeT Ps vs) is (ts (xs c)[i])) := ((s.up (g1.ff.trans (g'.ff.trans g2.ff))).wipes vs).sets hus
    refine ht c i _ hc ha F2 H2 _ g2.fh s2 (o'.step g2) _ fun b F3 H3 hb g3 o3 => ?_
    have d3 := (d'.step g2).stepE (A := [h]) nDm g3
    have gg3 := (g'.trans (.of g2)).trans g3
    cases b with
    | true =>
      rw [if_pos rfl]
      refine he c i _ hc ha hb F3 H3 _ g3.fh (s2.up g3.ff) o3 _ fun v F4 H4 g4 o4 p4 => ?_
      obtain ⟨b, b1, b2⟩ := p4
      obtain ⟨k1, acc, k2, k3⟩ := d3.stepE (A := [h]) nDm g4
      refine ⟨acc, k2, ?_, F4, l ++ [b], (gg3.trans g4).putNew hD k1, o4.stepE (A := [D]) (fun z => nD (List.mem_singleton.mp z).symm) (GrE.put g4.fh k1 k2), ⟨k1, _, upd_same, ?_⟩, add c i _ b l hc ha hb b1 I'⟩
      · rw [← k3.len, List.length_map]
        have h1 := len c i l I'
        have h2 := hz c hc
        omega
      · rw [List.map_append]
        exact k3.append (.cons b2 .nil)
    | false =>
      rw [if_neg Bool.false_ne_true]
      exact ⟨F3, l, gg3, o3, d3, skip c i _ l hc ha hb I'⟩
  · have : i = (xs c).length := by omega
    subst this
    exact .inl ⟨by have := w.stops F' H' g'.ff g'.fh; rw [List.length_map] at this; exact this, q _ D F' H' ⟨c, l, hc, I', rfl⟩ (g1.trans g') o' (Classical.byContradiction fun z => g1.up D z hD) d'⟩
end
section
variable {K : PySem.W.Frag} {h : Addr} {Ps : Tys} {P P' R : Ty} {te ta tb : TE} {tl : TA} {F0 H0 F H : Hp} {σ : L2.St} {D : Ends} {t2 : TS} {Qs Rs : List Ty} {J : List Ty → Prop} {l : Addr}
/-- x = [.. drawn ..], the list open -/
theorem shl_asg {i : Nat} (R : RS F0 H0 F H σ Ps) (o : HandOk h F H) (h0 : H0 h = none) (e : EvHL h te Ps J) (k : ∀ ls D1 F' H' σ', J ls → GrE [h] F H F' H' → RS F0 H0 F' H' σ' (Ps.set i (some (Vl (.ref D1)))) → HandOk h F' H' → H0 D1 = none → H D1 = none → D1 ≠ h → OpL D1 F' H' ls → t2 D σ' H') : tSeq (tAsg te (gName i)) t2 D σ H :=
  e F H σ R.fh R.sl o _ fun ls D1 F1 H1 j g1 o1 hD d => k ls D1 F1 H1 _ j g1 ((R.stepH h0 g1).set i (P := Vl (.ref D1)) rfl) o1 (R.gr.hh.free hD) hD (o.ne hD) d
/-- l[i] = what is drawn, l open -/
theorem sh_setL {β : Type} {p : β → Prop} {f : β → Ty} {n : Nat} (R : RS F0 H0 F H σ Ps) (o : HandOk h F H) (h0 : H0 h = none) (ol : OpL l F H Qs) (nl : l ≠ h) (hl0 : H0 l = none) (hv : EvH h te Ps (ExT p f)) (hl : EvX ta Ps (Vl (.ref l))) (hi : EvX tb Ps (Dat (.int (n : Int)))) (hn : n < Qs.length)
    (k : ∀ b F' H', p b → GrE [h, l] F H F' H' → RS F0 H0 F' H' σ Ps → HandOk h F' H' → OpL l F' H' (Qs.set n (f b)) → D.nx σ H') : tAsg te (gSub ta tb rSetL) D σ H :=
  hv F H σ R.fh R.sl o _ fun v F1 H1 g1 o1 ⟨b, b1, b2⟩ => hl F1 H1 σ g1.fh (R.sl.up g1.ff) _ fun x F2 H2 g2 p2 => hi F2 H2 σ g2.fh (R.sl.up (g1.ff.trans g2.ff)) _ fun y F3 H3 g3 p3 => by
    have e2 : x = .ref l := p2
    subst e2
    have g23 := g2.trans g3
    obtain ⟨f3, us, k1, k2⟩ := (ol.stepE (A := [h]) (fun z => nl (List.mem_singleton.mp z)) g1).step g23
    refine ⟨l, us, n, n, rfl, dat_int p3, k1, by rw [← k2.len]; exact ixN_at hn, ?_⟩
    have gp := GrE.put g3.fh f3 k1 (o := .lst (us.set n v))
    have gg : GrE [h, l] F H F3 (upd H3 l (.lst (us.set n v))) := ((g1.mono fun a ha => by rw [List.mem_singleton.mp ha]; exact List.mem_cons_self).trans (.of g23)).trans (gp.mono fun a ha => by rw [List.mem_singleton.mp ha]; exact List.mem_cons_of_mem _ List.mem_cons_self)
    exact k b F3 _ b1 gg (((R.stepH h0 g1).step g23).stepE (fun b hb => by rw [List.mem_singleton.mp hb]; exact hl0) gp) ((o1.step g23).stepE (A := [l]) (fun z => nl (List.mem_singleton.mp z).symm) gp) ⟨f3, _, upd_same, AllP.set_ k2 ((f b).up _ _ _ g23.ff b2)⟩
/-- l.extend([.. drawn ..]) -/
theorem sh_extend (R : RS F0 H0 F H σ Ps) (o : HandOk h F H) (h0 : H0 h = none) (ol : OpL l F H Qs) (nl : l ≠ h) (hl0 : H0 l = none) (ho : EvX ta Ps (Vl (.ref l))) (e : EvHL h te Ps J) (hz : ∀ ls, J ls → Qs.length + ls.length ≤ sizeLine)
    (k : ∀ ls F' H', J ls → RS F0 H0 F' H' σ Ps → HandOk h F' H' → OpL l F' H' (Qs ++ ls) → D.nx σ H') : tDrop (tBM K "list" rExtend ta (tCons te tNil)) D σ H :=
  ho F H σ R.fh R.sl _ fun x F1 H1 g1 p1 => by
    have e1 : x = .ref l := p1
    subst e1
    obtain ⟨_, us, k1, _⟩ := ol.step g1
    refine ⟨.inl ⟨rfl, us, SqL.of k1⟩, e F1 H1 σ g1.fh (R.sl.up g1.ff) (o.step g1) _ fun ls D1 F2 H2 j g2 o2 hD d => ?_⟩
    have ol2 := (ol.step g1).stepE (A := [h]) (fun z => nl (List.mem_singleton.mp z)) g2
    obtain ⟨m1, ws, m2, m3⟩ := ol2
    obtain ⟨n1, zs, n2, n3⟩ := d
    refine ⟨l, D1, ws, zs, rfl, rfl, m2, n2, by rw [← m3.len, ← n3.len]; exact hz ls j, ?_⟩
    have gp := GrE.put (o := .lst (ws ++ zs)) g2.fh m1 m2
    exact k ls F2 _ j ((((R.step g1).stepH h0 g2)).stepE (fun b hb => by rw [List.mem_singleton.mp hb]; exact hl0) gp) (o2.stepE (A := [l]) (fun z => nl (List.mem_singleton.mp z).symm) gp) ⟨m1, _, upd_same, m3.append n3⟩
end
end G
set_option Elab.async false
set_option linter.all false
set_option maxRecDepth 100000
set_option maxHeartbeats 4000000
local macro_rules | `(tactic| walk_at "side") => `(tactic| first | assumption | rfl | decide | omega)
local macro_rules | `(tactic| walk_at "ea") => `(tactic| first | with_reducible exact G.a_nil | ((with_reducible apply G.a_cons); walk_at "ev"; walk_at "ea"))
local macro_rules | `(tactic| walk_at "eo") => `(tactic| first | with_reducible exact G.o_none | ((with_reducible apply G.o_some); walk_at "ev"))
local macro_rules | `(tactic| walk_at "et") => `(tactic| first
  | ((with_reducible apply G.x_test); walk_at "ev")
  | ((with_reducible apply G.x_tB); walk_at "ev")
  | ((with_reducible apply G.x_not); walk_at "et")
  | ((with_reducible apply G.x_and); walk_at "et"; (intro _); walk_at "et")
  | ((with_reducible apply G.x_or); walk_at "et"; (intro _); walk_at "et"))
local macro_rules | `(tactic| walk_at "ev") => `(tactic| first
  | with_reducible exact G.x_int | with_reducible exact G.x_str | with_reducible exact G.x_bl | with_reducible exact G.x_non | with_reducible exact G.x_ty
  | ((with_reducible apply G.x_var); rfl)
  | assumption
  | ((with_reducible apply G.e_add); walk_at "ev"; walk_at "ev")
  | ((with_reducible apply G.e_sub); walk_at "ev"; walk_at "ev")
  | ((with_reducible apply G.e_lt); walk_at "ev"; walk_at "ev")
  | ((with_reducible apply G.e_le); walk_at "ev"; walk_at "ev")
  | ((with_reducible apply G.e_gt); walk_at "ev"; walk_at "ev")
  | ((with_reducible apply G.e_ge); walk_at "ev"; walk_at "ev")
  | ((with_reducible apply G.e_neg); walk_at "ev")
  | ((with_reducible apply G.e_abs); walk_at "ev")
  | ((with_reducible apply G.x_andV); walk_at "ev"; (intro _); walk_at "ev")
  | ((with_reducible apply G.x_orV); walk_at "ev"; (intro _); walk_at "ev")
  | ((with_reducible apply G.x_notV); walk_at "ev")
  | ((with_reducible apply G.e_isi); walk_at "ev"; first | with_reducible exact G.kit_int _ | with_reducible exact G.kit_bool _ | with_reducible exact G.kit_tuple _ | with_reducible exact G.kit_str _)
  | ((with_reducible apply G.e_eqI); walk_at "ev"; walk_at "ev")
  | ((with_reducible apply G.e_neI); walk_at "ev"; walk_at "ev")
  | ((with_reducible apply G.e_eqS); walk_at "ev"; walk_at "ev")
  | ((with_reducible apply G.e_neS); walk_at "ev"; walk_at "ev")
  | ((with_reducible apply G.e_lenD); walk_at "ev")
  | ((with_reducible apply G.e_len); walk_at "ev")
  | ((with_reducible apply G.e_lenL); walk_at "ev")
  | ((with_reducible apply G.x_chain); walk_at "ev"; walk_at "ev"; (intro _); walk_at "ev"))
local macro_rules | `(tactic| walk_at "R") => `(tactic| assumption)
local macro_rules | `(tactic| walk_at "ifS") => `(tactic| first
  | refine G.s_ifF (by assumption) (G.x_test (G.e_eqS (G.x_var rfl) G.x_str)) (by decide +kernel) (fun _ _ _ => ?_)
  | refine G.s_ifT (by assumption) (G.x_test (G.e_eqS (G.x_var rfl) G.x_str)) (by decide +kernel) (fun _ _ _ => ?_))

/-! The small defs. -/
namespace G
open PySem PySem.Spec PyProof.Rows L2
open Enc (enc)
abbrev s_is_integer : Stmt := top 7
abbrev nm_is_integer : List Str := ["thing"]
abbrev ps_is_integer : List Str := ["thing"]
theorem sc_is_integer : FnScope nm_is_integer ps_is_integer (defScope s_is_integer) := ⟨rfl, rfl, rfl, by decide +kernel, rfl, by decide +kernel, by decide +kernel⟩
abbrev s_is_within : Stmt := top 8
abbrev nm_is_within : List Str := ["thing", "least", "most"]
abbrev ps_is_within : List Str := ["thing", "least", "most"]
theorem sc_is_within : FnScope nm_is_within ps_is_within (defScope s_is_within) := ⟨rfl, rfl, rfl, by decide +kernel, rfl, by decide +kernel, by decide +kernel⟩
abbrev s_is_pair : Stmt := top 9
abbrev nm_is_pair : List Str := ["thing"]
abbrev ps_is_pair : List Str := ["thing"]
theorem sc_is_pair : FnScope nm_is_pair ps_is_pair (defScope s_is_pair) := ⟨rfl, rfl, rfl, by decide +kernel, rfl, by decide +kernel, by decide +kernel⟩
abbrev s_is_row : Stmt := top 10
abbrev nm_is_row : List Str := ["thing", "size"]
abbrev ps_is_row : List Str := ["thing", "size"]
theorem sc_is_row : FnScope nm_is_row ps_is_row (defScope s_is_row) := ⟨rfl, rfl, rfl, by decide +kernel, rfl, by decide +kernel, by decide +kernel⟩
abbrev s_is_sized : Stmt := top 11
abbrev nm_is_sized : List Str := ["thing", "least", "most"]
abbrev ps_is_sized : List Str := ["thing", "least", "most"]
theorem sc_is_sized : FnScope nm_is_sized ps_is_sized (defScope s_is_sized) := ⟨rfl, rfl, rfl, by decide +kernel, rfl, by decide +kernel, by decide +kernel⟩
abbrev s_with_item : Stmt := top 18
abbrev nm_with_item : List Str := ["items", "at", "thing"]
abbrev ps_with_item : List Str := ["items", "at", "thing"]
theorem sc_with_item : FnScope nm_with_item ps_with_item (defScope s_with_item) := ⟨rfl, rfl, rfl, by decide +kernel, rfl, by decide +kernel, by decide +kernel⟩
abbrev s_law_set : Stmt := top 59
abbrev nm_law_set : List Str := ["_law_items", "_law_at", "_law_thing"]
abbrev ps_law_set : List Str := ["_law_items", "_law_at", "_law_thing"]
theorem sc_law_set : FnScope nm_law_set ps_law_set (defScope s_law_set) := ⟨rfl, rfl, rfl, by decide +kernel, rfl, by decide +kernel, by decide +kernel⟩
section
variable {P : Program} {w : World} {K : PySem.W.Frag} {mg : Str → Option Value} {base : Heap} {f f1 f2 f3 C : Addr} {fd fd1 fd2 fd3 : FuncData}
abbrev sp_is_integer : Sp := SpG (fun _ : T => True) fun t => ([Dat t], Dat (.bl (isInt t)))
theorem ok_is_integer (F : Fun K "is_integer" "is_integer" s_is_integer f fd) (B : Bi mg) : FnOk P w K mg base CX0 3 f fd ps_is_integer sp_is_integer := by
  refine okG F sc_is_integer (fun _ => rfl) fun cdv A outer s H E hr => ⟨_, (pss_one (ps_ret (pe_and (pe_callB (kC (r := rIsi) (K := K) call_isi rfl) (by rfl) B.isinstance_ b_isinstance (pa_cons (pv 0) (pa_cons (pe_bltn (v := .ty "int") (by rfl) B.int_ b_int rfl) pa_nil))) (pe_one (pe_not (pe_callB (kC (r := rIsi) (K := K) call_isi rfl) (by rfl) B.isinstance_ b_isinstance (pa_cons (pv 0) (pa_cons (pe_bltn (v := .ty "bool") (by rfl) B.bool_ b_bool rfl) pa_nil)))))))), fun t F vs Q _ R q => ?_⟩
  refine' s_ret R (EvX.cast ?h ?e) q
  case h => walk_at "ev"
  case e => cases t <;> rfl
/-- is_within: of an integer -/
abbrev sp_is_within : Sp := SpG (fun _ : Int × Int × Int => True) fun i => ([Dat (.int i.1), Dat (.int i.2.1), Dat (.int i.2.2)], Dat (.bl (decide (i.2.1 ≤ i.1) && decide (i.1 ≤ i.2.2))))
theorem ok_is_within (F : Fun K "is_within" "is_within" s_is_within f fd) (G_is_integer : GF P w K mg base "is_integer" ps_is_integer 3 sp_is_integer f1 fd1) : FnOk P w K mg base CX0 4 f fd ps_is_within sp_is_within := by
  refine okG F sc_is_within (fun _ => rfl) fun cdv A outer s H E hr => ⟨_, (pss_one (ps_ret (pe_and (pe_f G_is_integer (hr.mono (by decide)) rfl (pa_cons (pv 0) pa_nil)) (pe_one (pe_chain oLeI oLeI (pv 1) (pv 0) (pv 2)))))), fun i F vs Q _ R q => ?_⟩
  obtain ⟨a, b, c⟩ := i
  refine' s_ret R (EvX.cast ?h ?e) q
  case h =>
    apply x_andV
    · exact x_call (.int a) trivial (a_cons (x_var rfl) a_nil) rfl
    · intro _; walk_at "ev"
  case e => rfl
abbrev sp_is_pair : Sp := SpG (fun _ : T × T => True) fun i => ([Dat (.tup [i.1, i.2])], Dat (.bl true))
theorem ok_is_pair (F : Fun K "is_pair" "is_pair" s_is_pair f fd) (B : Bi mg) : FnOk P w K mg base CX0 3 f fd ps_is_pair sp_is_pair := by
  refine okG F sc_is_pair (fun _ => rfl) fun cdv A outer s H E hr => ⟨_, (pss_one (ps_ret (pe_and (pe_callB (kC (r := rIsi) (K := K) call_isi rfl) (by rfl) B.isinstance_ b_isinstance (pa_cons (pv 0) (pa_cons (pe_bltn (v := .ty "tuple") (by rfl) B.tuple_ b_tuple rfl) pa_nil))) (pe_one (pe_cmpR oEqS (pe_callB (kC (r := rLenG) (K := K) cLen rfl) (by rfl) B.len_ b_len (pa_cons (pv 0) pa_nil)) pe_int (nomark _)))))), fun i F vs Q _ R q => ?_⟩
  obtain ⟨a, b⟩ := i
  refine' s_ret R (EvX.cast ?h ?e) q
  case h => walk_at "ev"
  case e => rfl
abbrev sp_is_row : Sp := SpG (fun _ : Str × List T => True) fun i => ([Dat (.tup (.str i.1 :: i.2)), Dat (.int ((i.2.length + 1 : Nat) : Int))], Dat (.bl true))
theorem ok_is_row (F : Fun K "is_row" "is_row" s_is_row f fd) (B : Bi mg) : FnOk P w K mg base CX0 3 f fd ps_is_row sp_is_row := by
  refine okG F sc_is_row (fun _ => rfl) fun cdv A outer s H E hr => ⟨_, (pss_one (ps_ret (pe_and (pe_callB (kC (r := rIsi) (K := K) call_isi rfl) (by rfl) B.isinstance_ b_isinstance (pa_cons (pv 0) (pa_cons (pe_bltn (v := .ty "tuple") (by rfl) B.tuple_ b_tuple rfl) pa_nil))) (pe_and (pe_cmpR oEqS (pe_callB (kC (r := rLenG) (K := K) cLen rfl) (by rfl) B.len_ b_len (pa_cons (pv 0) pa_nil)) (pv 1) (nomark _)) (pe_one (pe_callB (kC (r := rIsi) (K := K) call_isi rfl) (by rfl) B.isinstance_ b_isinstance (pa_cons (pe_ix (kIx (r := rIxT) (K := K) ix_tup rfl) (pv 0) pe_int (fun _ _ => rfl)) (pa_cons (pe_bltn (v := .ty "str") (by rfl) B.str_ b_str rfl) pa_nil)))))))), fun i F vs Q _ R q => ?_⟩
  obtain ⟨x, ts⟩ := i
  refine' s_ret R (EvX.cast ?h ?e) q
  case h =>
    apply x_andV
    · walk_at "ev"
    · intro _
      apply x_andV
      · walk_at "ev"
      · intro _
        exact e_isi (x_ixD (t := .str x) (n := 0) (x_var (P := Dat (.tup (.str x :: ts))) rfl) x_int (ixN_at (Nat.succ_pos _)) rfl) (kit_str _)
  case e =>
    show Dat (.bl (true && _)) = _
    simp [isStr, isTup]
abbrev sp_is_sized : Sp := SpG (fun _ : List Ty × Int × Int => True) fun i => ([TupP i.1, Dat (.int i.2.1), Dat (.int i.2.2)], Dat (.bl (decide (i.2.1 ≤ (i.1.length : Int)) && decide ((i.1.length : Int) ≤ i.2.2))))
theorem ok_is_sized (F : Fun K "is_sized" "is_sized" s_is_sized f fd) (B : Bi mg) : FnOk P w K mg base CX0 3 f fd ps_is_sized sp_is_sized := by
  refine okG F sc_is_sized (fun _ => rfl) fun cdv A outer s H E hr => ⟨_, (pss_one (ps_ret (pe_and (pe_callB (kC (r := rIsi) (K := K) call_isi rfl) (by rfl) B.isinstance_ b_isinstance (pa_cons (pv 0) (pa_cons (pe_bltn (v := .ty "tuple") (by rfl) B.tuple_ b_tuple rfl) pa_nil))) (pe_one (pe_chain oLeI oLeI (pv 1) (pe_callB (kC (r := rLenG) (K := K) cLen rfl) (by rfl) B.len_ b_len (pa_cons (pv 0) pa_nil)) (pv 2)))))), fun i F vs Q _ R q => ?_⟩
  obtain ⟨a, b, c⟩ := i
  refine' s_ret R (EvX.cast ?h ?e) q
  case h =>
    apply x_andV
    · exact e_isiP (x_var (n := 0) rfl) (kit_ty (r := true) (by decide +kernel))
    · intro _; walk_at "ev"
  case e => rfl
/-! items[:at] + (thing,) + items[at + 1:] -/
abbrev sp_set : Sp := SpG (fun i : List Ty × Nat × Ty => i.2.1 < i.1.length ∧ i.1.length ≤ 100000) fun i => ([TupP i.1, Dat (.int (i.2.1 : Int)), i.2.2], TupP (i.1.set i.2.1 i.2.2))
theorem take_set {α : Type} {l : List α} {n : Nat} {a : α} (h : n < l.length) : l.take n ++ [a] ++ l.drop (n + 1) = l.set n a := by
  rw [List.set_eq_take_append_cons_drop, if_pos h, List.append_assoc]
  rfl
theorem big {n : Nat} (h : n ≤ 1000000) : n ≤ sizeLine := by rw [sizeLine_eq]; omega
theorem set_run {K : PySem.W.Frag} {Qs : List Ty} {n : Nat} {R : Ty} (h : n < Qs.length) (hz : Qs.length ≤ 100000) :
    EvX (tOp (rCatA K) (tOp (rCatA K) (tSl (rSlA K) (tVar 0) tNoPart (tPart (tVar 1))) (tTup (tCons (tVar 2) tNil))) (tSl (rSlA K) (tVar 0) (tPart (tOp rAddI (tVar 1) (tC (.int 1)))) tNoPart)) [some (TupP Qs), some (Dat (.int (n : Int))), some R] (TupP (Qs.set n R)) := by
  rw [← take_set h]
  refine x_cat (x_cat (x_slT (x_var rfl) o_none (o_some (x_var rfl)) (cut_to _ _)) (x_tup (Qs := [R]) (a_cons (x_var rfl) a_nil) (by show 1 ≤ _; decide)) ?_) (x_slT (lo := some ((n + 1 : Nat) : Int)) (x_var rfl) (o_some ?_) o_none (cut_from _ _)) ?_
  · refine big ?_
    rw [List.length_take, List.length_singleton]
    omega
  · exact e_add (i := (n : Int)) (j := 1) (x_var rfl) x_int
  · refine big ?_
    rw [List.length_append, List.length_take, List.length_singleton, List.length_drop]
    omega
theorem ok_with_item (F : Fun K "with_item" "with_item" s_with_item f fd) : FnOk P w K mg base CX0 3 f fd ps_with_item sp_set := by
  refine okG F sc_with_item (fun _ => rfl) fun cdv A outer s H E hr => ⟨_, (pss_one (ps_ret (pe_op (kOp (r := rCatA) (K := K) op_catA rfl) (pe_op (kOp (r := rCatA) (K := K) op_catA rfl) (pe_slice (kSl (r := rSlA) (K := K) sl_tupA rfl) (pv 0) po_none (po_some (pv 1))) (pe_tup (pa_cons (pv 2) pa_nil))) (pe_slice (kSl (r := rSlA) (K := K) sl_tupA rfl) (pv 0) (po_some (pe_op oAddI (pv 1) pe_int)) po_none)))), fun i F vs Q hp R q => ?_⟩
  exact s_ret R (set_run hp.1 hp.2) q
theorem ok__law_set (F : Fun K "_law_set" "_law_set" s_law_set f fd) : FnOk P w K mg base CX0 3 f fd ps_law_set sp_set := by
  refine okG F sc_law_set (fun _ => rfl) fun cdv A outer s H E hr => ⟨_, (pss_one (ps_ret (pe_op (kOp (r := rCatA) (K := K) op_catA rfl) (pe_op (kOp (r := rCatA) (K := K) op_catA rfl) (pe_slice (kSl (r := rSlA) (K := K) sl_tupA rfl) (pv 0) po_none (po_some (pv 1))) (pe_tup (pa_cons (pv 2) pa_nil))) (pe_slice (kSl (r := rSlA) (K := K) sl_tupA rfl) (pv 0) (po_some (pe_op oAddI (pv 1) pe_int)) po_none)))), fun i F vs Q hp R q => ?_⟩
  exact s_ret R (set_run hp.1 hp.2) q
end
end G
namespace G
open PySem PySem.Spec PyProof.Rows L2
open Enc (enc)
abbrev s_State_init : Stmt := inClass (top 17) 0
abbrev nm_State_init : List Str := ["self", "cells", "told"]
abbrev ps_State_init : List Str := ["self", "cells", "told"]
theorem sc_State_init : FnScope nm_State_init ps_State_init (defScope s_State_init) := ⟨rfl, rfl, rfl, by decide +kernel, rfl, by decide +kernel, by decide +kernel⟩
abbrev s_State_copied : Stmt := inClass (top 17) 1
abbrev nm_State_copied : List Str := ["self", "found"]
abbrev ps_State_copied : List Str := ["self"]
theorem sc_State_copied : FnScope nm_State_copied ps_State_copied (defScope s_State_copied) := ⟨rfl, rfl, rfl, by decide +kernel, rfl, by decide +kernel, by decide +kernel⟩
def stNs : List Str := ["row", "registers", "remembered", "told", "cells", "diary", "faulted", "up"]
def stF (m : MS) : Flds := [("row", Dat (enc m.row)), ("registers", Dat (enc m.regs)), ("remembered", Dat (enc m.kept)), ("told", Dat (enc m.told)), ("cells", Dat (enc m.cells)), ("diary", Dat (enc m.diary)), ("faulted", Dat (enc m.fault)), ("up", Dat (.bl true))]
abbrev stP (C : Addr) (m : MS) : Ty := InsP C (stF m)
def newMS (n : Nat) (told : List Int) : MS := ⟨0, List.replicate 8 0, [], told, List.replicate n 0, [], false⟩
abbrev sp_State_init (C : Addr) : Sp := SpO C (fun i : Nat × List Int => i.1 ≤ 1000) fun i => ([Dat (.int (i.1 : Int)), Dat (enc i.2)], stF (newMS i.1 i.2))
abbrev sp_copied (C : Addr) : Sp := SpU C (fun m : MS => m.cells.length ≤ 1000) fun m => ([stP C m], stF m)
section
variable {P : Program} {w : World} {K : PySem.W.Frag} {mg : Str → Option Value} {base : Heap} {f f1 f2 f3 C : Addr} {fd fd1 fd2 fd3 : FuncData}
theorem rep_enc (n : Nat) : List.replicate n (T.int 0) = (List.replicate n (0 : Int)).map enc := by
  rw [List.map_replicate]
  rfl
theorem e_zeros {K : PySem.W.Frag} {Ps : Tys} {tb : TE} {n : Nat} (hb : EvX tb Ps (Dat (.int (n : Int)))) (hn : n ≤ 1000) : EvX (tOp (rRepA K) (tTup (tCons (tC (.int 0)) tNil)) tb) Ps (Dat (enc (List.replicate n (0 : Int)))) := by
  have := e_repD (K := K) (t := .int 0) (x_tupD (a_cons x_int a_nil) (by rw [sizeLine_eq]; decide)) hb hn
  rw [rep_enc] at this
  exact this
theorem e_unit {Ps : Tys} : EvX (tTup tNil) Ps (Dat (.tup [])) := x_tupD a_nil (by rw [sizeLine_eq]; decide)
theorem ok_State_init (F : Fun K "__init__" "State.__init__" s_State_init f fd) (M : Mods mg) (O : OwnC K C stNs) : FnOk P w K mg base CX0 3 f fd ps_State_init (sp_State_init C) := by
  refine okO F sc_State_init (fun _ => rfl) fun cdv A outer s H E hr => ⟨_, (pss_cons (ps_fld (pv 0) pe_int rfl)
  (pss_cons (ps_fld (pv 0) (pe_op (kOp (r := rRepA) (K := K) op_repA rfl) (pe_tup (pa_cons pe_int pa_nil)) (pe_gint M.REGISTERS_machines)) rfl)
  (pss_cons (ps_fld (pv 0) (pe_tup pa_nil) rfl)
  (pss_cons (ps_fld (pv 0) (pv 2) rfl)
  (pss_cons (ps_fld (pv 0) (pe_op (kOp (r := rRepA) (K := K) op_repA rfl) (pe_tup (pa_cons pe_int pa_nil)) (pv 1)) rfl)
  (pss_cons (ps_fld (pv 0) (pe_tup pa_nil) rfl)
  (pss_cons (ps_fld (pv 0) pe_bl rfl)
  (pss_one (ps_fld (pv 0) pe_bl rfl))))))))), fun i F vs Q x hp R o q => ?_⟩
  obtain ⟨n, told⟩ := i
  have h0 : hid H x x = none := hid_same
  refine s_fld R o h0 (x_var rfl) x_int O (by decide +kernel) (of_decide_eq_true rfl) fun F H R o => ?_
  refine s_fld R o h0 (x_var rfl) (e_zeros (n := 8) x_int (by decide)) O (by decide +kernel) (of_decide_eq_true rfl) fun F H R o => ?_
  refine s_fld R o h0 (x_var rfl) e_unit O (by decide +kernel) (of_decide_eq_true rfl) fun F H R o => ?_
  refine s_fld R o h0 (x_var rfl) (x_var (P := Dat (enc told)) rfl) O (by decide +kernel) (of_decide_eq_true rfl) fun F H R o => ?_
  refine s_fld R o h0 (x_var rfl) (e_zeros (n := n) (x_var rfl) hp) O (by decide +kernel) (of_decide_eq_true rfl) fun F H R o => ?_
  refine s_fld R o h0 (x_var rfl) e_unit O (by decide +kernel) (of_decide_eq_true rfl) fun F H R o => ?_
  refine s_fld R o h0 (x_var rfl) x_bl O (by decide +kernel) (of_decide_eq_true rfl) fun F H R o => ?_
  refine s_fld R o h0 (x_var rfl) x_bl O (by decide +kernel) (of_decide_eq_true rfl) fun F H R o => ?_
  exact q F H R.gr o
theorem ok_copied (F : Fun K "copied" "State.copied" s_State_copied f fd) (B : Bi mg) (C_State : GK P w K mg base "State" C ps_State_init 3 (sp_State_init C) f1 fd1) (O : OwnC K C stNs) : FnOk P w K mg base CX0 5 f fd ps_State_copied (sp_copied C) := by
  refine okU F sc_State_copied (fun _ => rfl) fun cdv A outer s H E hr => ⟨_, (pss_cons (ps_set (i := 1) sc_State_copied.nd rfl (Or.inl rfl) (pe_k C_State (hr.mono (by decide)) rfl (pa_cons (pe_callB (kC (r := rLenG) (K := K) cLen rfl) (by rfl) B.len_ b_len (pa_cons (kPF (K := K) (pe_fld (pv 0) rfl) rfl) pa_nil)) (pa_cons (kPF (K := K) (pe_fld (pv 0) rfl) rfl) pa_nil))))
  (pss_cons (ps_fld (pv 1) (kPF (K := K) (pe_fld (pv 0) rfl) rfl) rfl)
  (pss_cons (ps_fld (pv 1) (kPF (K := K) (pe_fld (pv 0) rfl) rfl) rfl)
  (pss_cons (ps_fld (pv 1) (kPF (K := K) (pe_fld (pv 0) rfl) rfl) rfl)
  (pss_cons (ps_fld (pv 1) (kPF (K := K) (pe_fld (pv 0) rfl) rfl) rfl)
  (pss_cons (ps_fld (pv 1) (kPF (K := K) (pe_fld (pv 0) rfl) rfl) rfl)
  (pss_cons (ps_fld (pv 1) (kPF (K := K) (pe_fld (pv 0) rfl) rfl) rfl)
  (pss_cons (ps_fld (pv 1) (kPF (K := K) (pe_fld (pv 0) rfl) rfl) rfl)
  (pss_one (ps_ret (pv 1))))))))))), fun m F vs Q hp R q => ?_⟩
  refine s_makeO R (m.cells.length, m.told) hp (a_cons ?_ (a_cons (x_fld (x_var (P := stP C m) rfl) O (by decide +kernel) rfl) a_nil)) fun x F H σ R o h0 _ => ?_
  · have := e_lenD (K := K) (x_fld (x_var (Ps := stT nm_State_copied [stP C m]) (n := 0) (P := stP C m) rfl) O (f := "cells") (by decide +kernel) rfl)
    rw [List.length_map] at this
    exact this
  refine s_fld R o h0 (x_var rfl) (x_fld (x_var (P := stP C m) rfl) O (by decide +kernel) rfl) O (by decide +kernel) (of_decide_eq_true rfl) fun F H R o => ?_
  refine s_fld R o h0 (x_var rfl) (x_fld (x_var (P := stP C m) rfl) O (by decide +kernel) rfl) O (by decide +kernel) (of_decide_eq_true rfl) fun F H R o => ?_
  refine s_fld R o h0 (x_var rfl) (x_fld (x_var (P := stP C m) rfl) O (by decide +kernel) rfl) O (by decide +kernel) (of_decide_eq_true rfl) fun F H R o => ?_
  refine s_fld R o h0 (x_var rfl) (x_fld (x_var (P := stP C m) rfl) O (by decide +kernel) rfl) O (by decide +kernel) (of_decide_eq_true rfl) fun F H R o => ?_
  refine s_fld R o h0 (x_var rfl) (x_fld (x_var (P := stP C m) rfl) O (by decide +kernel) rfl) O (by decide +kernel) (of_decide_eq_true rfl) fun F H R o => ?_
  refine s_fld R o h0 (x_var rfl) (x_fld (x_var (P := stP C m) rfl) O (by decide +kernel) rfl) O (by decide +kernel) (of_decide_eq_true rfl) fun F H R o => ?_
  refine s_fld R o h0 (x_var rfl) (x_fld (x_var (P := stP C m) rfl) O (by decide +kernel) rfl) O (by decide +kernel) (of_decide_eq_true rfl) fun F H R o => ?_
  obtain ⟨v, k1, k2⟩ := R.sl.at_ 1 _ rfl
  have k2' : v = .ref x := k2
  exact ⟨v, k1, by rw [k2']; exact q x F H R.gr h0 o⟩
end
end G
namespace G
open PySem PySem.Spec PyProof.Rows L2
open Enc (enc)
abbrev s_written : Stmt := top 19
abbrev nm_written : List Str := ["state", "put", "cell", "worth", "found"]
abbrev ps_written : List Str := ["state", "put", "cell", "worth"]
theorem sc_written : FnScope nm_written ps_written (defScope s_written) := ⟨rfl, rfl, rfl, by decide +kernel, rfl, by decide +kernel, by decide +kernel⟩
abbrev s_at_fault : Stmt := top 20
abbrev nm_at_fault : List Str := ["state", "found"]
abbrev ps_at_fault : List Str := ["state"]
theorem sc_at_fault : FnScope nm_at_fault ps_at_fault (defScope s_at_fault) := ⟨rfl, rfl, rfl, by decide +kernel, rfl, by decide +kernel, by decide +kernel⟩
abbrev s_number_by : Stmt := top 21
abbrev nm_number_by : List Str := ["state", "row", "word", "one", "other"]
abbrev ps_number_by : List Str := ["state", "row"]
theorem sc_number_by : FnScope nm_number_by ps_number_by (defScope s_number_by) := ⟨rfl, rfl, rfl, by decide +kernel, rfl, by decide +kernel, by decide +kernel⟩
abbrev s_goes : Stmt := top 22
abbrev nm_goes : List Str := ["state", "row", "one", "other"]
abbrev ps_goes : List Str := ["state", "row"]
theorem sc_goes : FnScope nm_goes ps_goes (defScope s_goes) := ⟨rfl, rfl, rfl, by decide +kernel, rfl, by decide +kernel, by decide +kernel⟩
abbrev s_after_row : Stmt := top 23
abbrev nm_after_row : List Str := ["state", "code", "row", "word", "found", "put", "number"]
abbrev ps_after_row : List Str := ["state", "code"]
theorem sc_after_row : FnScope nm_after_row ps_after_row (defScope s_after_row) := ⟨rfl, rfl, rfl, by decide +kernel, rfl, by decide +kernel, by decide +kernel⟩
abbrev s_word_of : Stmt := top 24
abbrev nm_word_of : List Str := ["state", "code", "is_everywhere"]
abbrev ps_word_of : List Str := ["state", "code", "is_everywhere"]
theorem sc_word_of : FnScope nm_word_of ps_word_of (defScope s_word_of) := ⟨rfl, rfl, rfl, by decide +kernel, rfl, by decide +kernel, by decide +kernel⟩
section
variable {α : Type} [DecidableEq α] [Enc α]
theorem enc_at {as : List α} {n : Nat} {d : α} (h : n < as.length) : (as.map enc)[n]? = some (enc (as.getD n d)) := by
  rw [List.getElem?_map, List.getD_eq_getElem?_getD, List.getElem?_eq_getElem h]
  rfl
theorem set_enc {as : List α} {n : Nat} {a : α} : ((as.map enc).map Dat).set n (Dat (enc a)) = ((as.set n a).map enc).map Dat := by
  rw [List.map_set, List.map_set]
/-- with_item, _law_set -/
theorem c_set {Ps : Tys} {ta tb tc : TE} {E : XK} {as : List α} {n : Nat} {a : α} (ha : EvX ta Ps (Dat (.tup (as.map enc)))) (hb : EvX tb Ps (Dat (.int (n : Int)))) (hc : EvX tc Ps (Dat (enc a))) (hn : n < as.length) (hz : as.length ≤ 100000) :
    EvX (tCall sp_set [] E (tCons ta (tCons tb (tCons tc tNil)))) Ps (Dat (.tup ((as.set n a).map enc))) := by
  refine ev_tup (x_call (((as.map enc).map Dat), n, Dat (enc a)) ⟨by rw [List.length_map, List.length_map]; exact hn, by rw [List.length_map, List.length_map]; exact hz⟩ (a_cons (ev_untup ha) (a_cons hb (a_cons hc a_nil))) ?_)
  show TupP (((as.map enc).map Dat).set n (Dat (enc a))) = _
  rw [set_enc]
theorem x_snoc {K : PySem.W.Frag} {Ps : Tys} {ta tb : TE} {as : List α} {a : α} (ha : EvX ta Ps (Dat (.tup (as.map enc)))) (hb : EvX tb Ps (Dat (enc a))) (hz : as.length ≤ 100000) : EvX (tOp (rCatA K) ta (tTup (tCons tb tNil))) Ps (Dat (.tup ((as ++ [a]).map enc))) := by
  rw [List.map_append]
  exact x_catD ha (x_tupD (ts := [enc a]) (a_cons hb a_nil) (big (by show 1 ≤ _; decide))) (by rw [List.length_map]; exact big (by show as.length + 1 ≤ _; omega))
end
/-- what a state must be to be handled -/
structure MOk (m : MS) : Prop where
  cells : m.cells.length ≤ 1000
  diary : m.diary.length ≤ 50000
  told : m.told.length ≤ 50000
  regs : m.regs.length = 8
  kept : m.kept.length ≤ 20
section
variable {P : Program} {w : World} {K : PySem.W.Frag} {mg : Str → Option Value} {base : Heap} {f f1 f2 f3 f4 C : Addr} {fd fd1 fd2 fd3 fd4 : FuncData}
abbrev sp_written (C : Addr) : Sp := SpG (fun i : MS × Put => MOk i.1 ∧ i.2.c < i.1.cells.length) fun i => ([stP C i.1, Dat (enc i.2), Dat (.int (i.2.c : Int)), Dat (.int i.2.x)], stP C (noted i.1 i.2))
theorem ok_written (F : Fun K "written" "written" s_written f fd) (M_State_copied : GM P w K mg base C "copied" ps_State_copied 5 (sp_copied C) f1 fd1) (G_with_item : GF P w K mg base "with_item" ps_with_item 3 sp_set f2 fd2) (O : OwnC K C stNs) :
    FnOk P w K mg base CX0 6 f fd ps_written (sp_written C) := by
  refine okG F sc_written (fun _ => rfl) fun cdv A outer s H E hr => ⟨_, (pss_cons (ps_set (i := 4) sc_written.nd rfl (Or.inl rfl) (pe_m0 M_State_copied (hr.mono (by decide)) (pv 0)))
  (pss_cons (ps_fld (pv 4) (pe_op (kOp (r := rCatA) (K := K) op_catA rfl) (kPF (K := K) (pe_fld (pv 0) rfl) rfl) (pe_tup (pa_cons (pv 1) pa_nil))) rfl)
  (pss_cons (ps_fld (pv 4) (pe_f G_with_item (hr.mono (by decide)) rfl (pa_cons (kPF (K := K) (pe_fld (pv 0) rfl) rfl) (pa_cons (pv 2) (pa_cons (pv 3) pa_nil)))) rfl)
  (pss_one (ps_ret (pv 4)))))), fun i F vs Q hp R q => ?_⟩
  obtain ⟨m, p⟩ := i
  obtain ⟨hm, hc⟩ : MOk m ∧ p.c < m.cells.length := hp
  have hd : m.diary.length ≤ 50000 := hm.diary
  have hz : m.cells.length ≤ 1000 := hm.cells
  refine s_methU R m hm.cells (x_var (P := stP C m) rfl) rfl a_nil rfl fun x F H σ R o h0 _ => ?_
  refine s_fld R o h0 (x_var rfl) (x_snoc (a := p) (x_fld (x_var (P := stP C m) rfl) O (P := Dat (enc m.diary)) (by decide +kernel) rfl) (x_var rfl) (by omega)) O (by decide +kernel) (of_decide_eq_true rfl) fun F H R o => ?_
  refine s_fld R o h0 (x_var rfl) (c_set (as := m.cells) (n := p.c) (a := p.x) (x_fld (x_var (P := stP C m) rfl) O (P := Dat (enc m.cells)) (by decide +kernel) rfl) (x_var rfl) (x_var rfl) hc (by omega)) O (by decide +kernel) (of_decide_eq_true rfl) fun F H R o => ?_
  exact s_retO R o h0 rfl q
abbrev sp_at_fault (C : Addr) : Sp := SpG (fun m : MS => MOk m) fun m => ([stP C m], stP C (bad m))
theorem ok_at_fault (F : Fun K "at_fault" "at_fault" s_at_fault f fd) (M_State_copied : GM P w K mg base C "copied" ps_State_copied 5 (sp_copied C) f1 fd1) (O : OwnC K C stNs) : FnOk P w K mg base CX0 6 f fd ps_at_fault (sp_at_fault C) := by
  refine okG F sc_at_fault (fun _ => rfl) fun cdv A outer s H E hr => ⟨_, (pss_cons (ps_set (i := 1) sc_at_fault.nd rfl (Or.inl rfl) (pe_m0 M_State_copied (hr.mono (by decide)) (pv 0)))
  (pss_cons (ps_fld (pv 1) pe_bl rfl)
  (pss_one (ps_ret (pv 1))))), fun m F vs Q hm R q => ?_⟩
  refine s_methU R m hm.cells (x_var (P := stP C m) rfl) rfl a_nil rfl fun x F H σ R o h0 _ => ?_
  refine s_fld R o h0 (x_var rfl) x_bl O (by decide +kernel) (of_decide_eq_true rfl) fun F H R o => ?_
  exact s_retO R o h0 rfl q
/-- the number that a row writes -/
def val (m : MS) : Row → Int
  | .set _ n => n
  | .look _ c => m.cells.getD c 0
  | .copy _ s => reg m s
  | .add _ s t => reg m s + reg m t
  | .take _ s t => reg m s - reg m t
  | _ => 0
/-- it writes one, with registers and cells that are -/
def NumOk (m : MS) : Row → Prop
  | .set r _ => r < 8
  | .look r c => r < 8 ∧ c < m.cells.length
  | .copy r s => r < 8 ∧ s < 8
  | .add r s t => r < 8 ∧ s < 8 ∧ t < 8
  | .take r s t => r < 8 ∧ s < 8 ∧ t < 8
  | _ => False
abbrev sp_number_by (C : Addr) : Sp := SpG (fun i : MS × Row => MOk i.1 ∧ NumOk i.1 i.2) fun i => ([stP C i.1, Dat (rowT i.2)], Dat (.int (val i.1 i.2)))
theorem ok_number_by (F : Fun K "number_by" "number_by" s_number_by f fd) (O : OwnC K C stNs) : FnOk P w K mg base CX0 3 f fd ps_number_by (sp_number_by C) := by
  refine okG F sc_number_by (fun _ => rfl) fun cdv A outer s H E hr => ⟨_, (pss_cons (ps_set (i := 2) sc_number_by.nd rfl (Or.inl rfl) (pe_ix (kIx (r := rIxT) (K := K) ix_tup rfl) (pv 1) pe_int (fun _ _ => rfl)))
  (pss_cons (ps_if (pt_cmpR oEqS (pv 2) pe_str (nomark _))
  (pss_one (ps_ret (pe_ix (kIx (r := rIxT) (K := K) ix_tup rfl) (pv 1) pe_int (fun _ _ => rfl))))
  pss_nil)
  (pss_cons (ps_if (pt_cmpR oEqS (pv 2) pe_str (nomark _))
  (pss_one (ps_ret (pe_ix (kIx (r := rIxT) (K := K) ix_tup rfl) (kPF (K := K) (pe_fld (pv 0) rfl) rfl) (pe_ix (kIx (r := rIxT) (K := K) ix_tup rfl) (pv 1) pe_int (fun _ _ => rfl)) (fun _ _ => rfl))))
  pss_nil)
  (pss_cons (ps_if (pt_cmpR oEqS (pv 2) pe_str (nomark _))
  (pss_one (ps_ret (pe_ix (kIx (r := rIxT) (K := K) ix_tup rfl) (kPF (K := K) (pe_fld (pv 0) rfl) rfl) (pe_ix (kIx (r := rIxT) (K := K) ix_tup rfl) (pv 1) pe_int (fun _ _ => rfl)) (fun _ _ => rfl))))
  pss_nil)
  (pss_cons (ps_par (i := 3) (j := 4) rfl sc_number_by.nd rfl rfl (by decide) rfl rfl (pa_cons (pe_ix (kIx (r := rIxT) (K := K) ix_tup rfl) (kPF (K := K) (pe_fld (pv 0) rfl) rfl) (pe_ix (kIx (r := rIxT) (K := K) ix_tup rfl) (pv 1) pe_int (fun _ _ => rfl)) (fun _ _ => rfl)) (pa_cons (pe_ix (kIx (r := rIxT) (K := K) ix_tup rfl) (kPF (K := K) (pe_fld (pv 0) rfl) rfl) (pe_ix (kIx (r := rIxT) (K := K) ix_tup rfl) (pv 1) pe_int (fun _ _ => rfl)) (fun _ _ => rfl)) pa_nil)) rfl)
  (pss_one (ps_ret (pe_ifExp (pt_cmpR oEqS (pv 2) pe_str (nomark _)) (pe_op oAddI (pv 3) (pv 4)) (pe_op oSubI (pv 3) (pv 4)))))))))), fun i F vs Q hp R q => ?_⟩
  obtain ⟨m, r⟩ := i
  obtain ⟨hm, hn⟩ := hp
  have hreg : ∀ {j : Nat}, j < 8 → (m.regs.map enc)[j]? = some (enc (reg m j)) := fun h => enc_at (by rw [hm.regs]; exact h)
  cases r with
  | set r n =>
    refine s_asg R (x_ixC (n := 0) (x_var (P := Dat (rowT (.set r n))) rfl) rfl) fun F H σ R => ?_
    walk_at "ifS"
    exact s_ret (by assumption) (x_ixC (n := 2) (x_var (P := Dat (rowT (.set r n))) rfl) rfl) q
  | look r c =>
    refine s_asg R (x_ixC (n := 0) (x_var (P := Dat (rowT (.look r c))) rfl) rfl) fun F H σ R => ?_
    walk_at "ifS"
    walk_at "ifS"
    exact s_ret (by assumption) (x_ixV (n := c) (x_fld (x_var (P := stP C m) rfl) O (P := Dat (enc m.cells)) (by decide +kernel) rfl) (x_ixC (n := 2) (x_var (P := Dat (rowT (.look r c))) rfl) rfl) (enc_at hn.2)) q
  | copy r c =>
    refine s_asg R (x_ixC (n := 0) (x_var (P := Dat (rowT (.copy r c))) rfl) rfl) fun F H σ R => ?_
    walk_at "ifS"
    walk_at "ifS"
    walk_at "ifS"
    exact s_ret (by assumption) (x_ixV (n := c) (x_fld (x_var (P := stP C m) rfl) O (P := Dat (enc m.regs)) (by decide +kernel) rfl) (x_ixC (n := 2) (x_var (P := Dat (rowT (.copy r c))) rfl) rfl) (hreg hn.2)) q
  | add r a b =>
    refine s_asg R (x_ixC (n := 0) (x_var (P := Dat (rowT (.add r a b))) rfl) rfl) fun F H σ R => ?_
    walk_at "ifS"
    walk_at "ifS"
    walk_at "ifS"
    refine s_par (by assumption) (a_cons (x_ixV (n := a) (x_fld (x_var (P := stP C m) rfl) O (P := Dat (enc m.regs)) (by decide +kernel) rfl) (x_ixC (n := 2) (x_var (P := Dat (rowT (.add r a b))) rfl) rfl) (hreg hn.2.1))
      (a_cons (x_ixV (n := b) (x_fld (x_var (P := stP C m) rfl) O (P := Dat (enc m.regs)) (by decide +kernel) rfl) (x_ixC (n := 3) (x_var (P := Dat (rowT (.add r a b))) rfl) rfl) (hreg hn.2.2)) a_nil)) fun F H σ R => ?_
    exact s_ret R (x_ifE (x_test (e_eqS (x_var rfl) x_str)) (fun _ => e_add (i := reg m a) (j := reg m b) (x_var rfl) (x_var rfl)) fun h => absurd h (by decide +kernel)) q
  | take r a b =>
    refine s_asg R (x_ixC (n := 0) (x_var (P := Dat (rowT (.take r a b))) rfl) rfl) fun F H σ R => ?_
    walk_at "ifS"
    walk_at "ifS"
    walk_at "ifS"
    refine s_par (by assumption) (a_cons (x_ixV (n := a) (x_fld (x_var (P := stP C m) rfl) O (P := Dat (enc m.regs)) (by decide +kernel) rfl) (x_ixC (n := 2) (x_var (P := Dat (rowT (.take r a b))) rfl) rfl) (hreg hn.2.1))
      (a_cons (x_ixV (n := b) (x_fld (x_var (P := stP C m) rfl) O (P := Dat (enc m.regs)) (by decide +kernel) rfl) (x_ixC (n := 3) (x_var (P := Dat (rowT (.take r a b))) rfl) rfl) (hreg hn.2.2)) a_nil)) fun F H σ R => ?_
    exact s_ret R (x_ifE (x_test (e_eqS (x_var rfl) x_str)) (fun h => absurd h (by decide +kernel)) fun _ => e_sub (i := reg m a) (j := reg m b) (x_var rfl) (x_var rfl)) q
  | _ => exact hn.elim
end
end G
namespace G
open PySem PySem.Spec PyProof.Rows L2
open Enc (enc)
section
variable {P : Program} {w : World} {K : PySem.W.Frag} {mg : Str → Option Value} {base : Heap} {f f1 f2 f3 f4 C : Addr} {fd fd1 fd2 fd3 fd4 : FuncData}
/-- the row's word -/
def wordOf : Row → Str
  | .set .. => "set" | .copy .. => "copy" | .add .. => "add" | .take .. => "take" | .put .. => "put" | .look .. => "look" | .tell .. => "tell" | .rest => "rest"
  | .same .. => "same" | .less .. => "less" | .go .. => "go" | .call .. => "call" | .back => "back"
def argsOf : Row → List T
  | .set r n => [.int r, .int n] | .copy r s => [.int r, .int s] | .add r s t => [.int r, .int s, .int t] | .take r s t => [.int r, .int s, .int t] | .put c r => [.int c, .int r] | .look r c => [.int r, .int c] | .tell r => [.int r] | .rest => []
  | .same r s to => [.int r, .int s, .int to] | .less r s to => [.int r, .int s, .int to] | .go to => [.int to] | .call to => [.int to] | .back => []
theorem rowT_eq (r : Row) : rowT r = .tup (.str (wordOf r) :: argsOf r) := by cases r <;> rfl
/-- whether a jump is made, and where to -/
def jump (m : MS) : Row → Bool
  | .go _ => true
  | .call _ => true
  | .same r s _ => decide (reg m r = reg m s)
  | .less r s _ => decide (reg m r < reg m s)
  | _ => false
def GoesOk : Row → Prop
  | .go _ => True
  | .call _ => True
  | .same r s _ => r < 8 ∧ s < 8
  | .less r s _ => r < 8 ∧ s < 8
  | _ => False
abbrev sp_goes (C : Addr) : Sp := SpG (fun i : MS × Row => MOk i.1 ∧ GoesOk i.2) fun i => ([stP C i.1, Dat (rowT i.2)], Dat (.bl (jump i.1 i.2)))
theorem strs_ev {Ps : Tys} : ∀ {ys : List Str} {tl : TA}, EvA tl Ps ((ys.map T.str).map Dat) → ys.length ≤ 100 → EvX (tTup tl) Ps (Dat (.tup (ys.map T.str))) := fun h hl => x_tupD h (by rw [List.length_map]; exact big (by omega))
theorem ok_goes (F : Fun K "goes" "goes" s_goes f fd) (O : OwnC K C stNs) : FnOk P w K mg base CX0 3 f fd ps_goes (sp_goes C) := by
  refine okG F sc_goes (fun _ => rfl) fun cdv A outer s H E hr => ⟨_, (pss_cons (ps_if (pt_cmpR (kOp (r := fun K => rIn K false) (K := K) op_in_seq rfl) (pe_ix (kIx (r := rIxT) (K := K) ix_tup rfl) (pv 1) pe_int (fun _ _ => rfl)) (pe_tup (pa_cons pe_str (pa_cons pe_str pa_nil))) rfl)
  (pss_one (ps_ret pe_bl))
  pss_nil)
  (pss_cons (ps_par (i := 2) (j := 3) rfl sc_goes.nd rfl rfl (by decide) rfl rfl (pa_cons (pe_ix (kIx (r := rIxT) (K := K) ix_tup rfl) (kPF (K := K) (pe_fld (pv 0) rfl) rfl) (pe_ix (kIx (r := rIxT) (K := K) ix_tup rfl) (pv 1) pe_int (fun _ _ => rfl)) (fun _ _ => rfl)) (pa_cons (pe_ix (kIx (r := rIxT) (K := K) ix_tup rfl) (kPF (K := K) (pe_fld (pv 0) rfl) rfl) (pe_ix (kIx (r := rIxT) (K := K) ix_tup rfl) (pv 1) pe_int (fun _ _ => rfl)) (fun _ _ => rfl)) pa_nil)) rfl)
  (pss_one (ps_ret (pe_ifExp (pt_cmpR oEqS (pe_ix (kIx (r := rIxT) (K := K) ix_tup rfl) (pv 1) pe_int (fun _ _ => rfl)) pe_str (nomark _)) (pe_cmpR oEqS (pv 2) (pv 3) (nomark _)) (pe_cmpR oLtI (pv 2) (pv 3) (nomark _))))))), fun i F vs Q hp R q => ?_⟩
  obtain ⟨m, r⟩ := i
  obtain ⟨hm, hn⟩ : MOk m ∧ GoesOk r := hp
  have hreg : ∀ {j : Nat}, j < 8 → (m.regs.map enc)[j]? = some (enc (reg m j)) := fun h => enc_at (by rw [hm.regs]; exact h)
  have first2 : EvX (tTup (tCons (tC (.str "go")) (tCons (tC (.str "call")) tNil))) (stT nm_goes [stP C m, Dat (rowT r)]) (Dat (.tup ((["go", "call"] : List Str).map T.str))) := strs_ev (a_cons x_str (a_cons x_str a_nil)) (by decide)
  cases r with
  | go to => exact s_ifT R (x_test (e_inS (x_ixC (n := 0) (x_var (P := Dat (rowT (.go to))) rfl) rfl) first2)) (by decide +kernel) fun F H R => s_ret R x_bl q
  | call to => exact s_ifT R (x_test (e_inS (x_ixC (n := 0) (x_var (P := Dat (rowT (.call to))) rfl) rfl) first2)) (by decide +kernel) fun F H R => s_ret R x_bl q
  | same a b to =>
    refine s_ifF R (x_test (e_inS (x_ixC (n := 0) (x_var (P := Dat (rowT (.same a b to))) rfl) rfl) first2)) (by decide +kernel) fun F H R => ?_
    refine s_par R (a_cons (x_ixV (n := a) (x_fld (x_var (P := stP C m) rfl) O (P := Dat (enc m.regs)) (by decide +kernel) rfl) (x_ixC (n := 1) (x_var (P := Dat (rowT (.same a b to))) rfl) rfl) (hreg hn.1))
      (a_cons (x_ixV (n := b) (x_fld (x_var (P := stP C m) rfl) O (P := Dat (enc m.regs)) (by decide +kernel) rfl) (x_ixC (n := 2) (x_var (P := Dat (rowT (.same a b to))) rfl) rfl) (hreg hn.2)) a_nil)) fun F H σ R => ?_
    exact s_ret R (x_ifE (x_test (e_eqS (x_ixC (n := 0) (x_var (P := Dat (rowT (.same a b to))) rfl) rfl) x_str)) (fun _ => e_eqI (i := reg m a) (j := reg m b) (x_var rfl) (x_var rfl)) fun h => absurd h (by decide +kernel)) q
  | less a b to =>
    refine s_ifF R (x_test (e_inS (x_ixC (n := 0) (x_var (P := Dat (rowT (.less a b to))) rfl) rfl) first2)) (by decide +kernel) fun F H R => ?_
    refine s_par R (a_cons (x_ixV (n := a) (x_fld (x_var (P := stP C m) rfl) O (P := Dat (enc m.regs)) (by decide +kernel) rfl) (x_ixC (n := 1) (x_var (P := Dat (rowT (.less a b to))) rfl) rfl) (hreg hn.1))
      (a_cons (x_ixV (n := b) (x_fld (x_var (P := stP C m) rfl) O (P := Dat (enc m.regs)) (by decide +kernel) rfl) (x_ixC (n := 2) (x_var (P := Dat (rowT (.less a b to))) rfl) rfl) (hreg hn.2)) a_nil)) fun F H σ R => ?_
    exact s_ret R (x_ifE (x_test (e_eqS (x_ixC (n := 0) (x_var (P := Dat (rowT (.less a b to))) rfl) rfl) x_str)) (fun h => absurd h (by decide +kernel)) fun _ => e_lt (i := reg m a) (j := reg m b) (x_var rfl) (x_var rfl)) q
  | _ => exact hn.elim
theorem ret_pair {C : Addr} {F0 H0 F H : Hp} {σ : L2.St} {Ps : Tys} {D : Ends} {x : Nat} {tfs : Flds} {P5 : Ty} (R : RS F0 H0 F H σ Ps) (o : Op x C F H tfs) (h0 : H0 x = none) (h4 : Ps[4]? = some (some (Vl (.ref x)))) (h5 : Ps[5]? = some (some P5))
    (k : ∀ v F' H', Gr F0 H0 F' H' → (TupP [InsP C tfs, P5]).p F' v → D.rt v H') : tRet (tTup (tCons (tVar 4) (tCons (tVar 5) tNil))) D σ H := by
  obtain ⟨F', R', s', p'⟩ := s_seal R o h0
  have R2 := R'.know h4 p'
  have hl := getElem?_lt h4
  refine s_ret R2 (x_tup (Qs := [InsP C tfs, P5]) (a_cons (x_var (by rw [List.getElem?_set_self hl])) (a_cons (x_var (by rw [List.getElem?_set_ne (by decide)]; exact h5)) a_nil)) (big (by show 2 ≤ _; decide))) k
/-- the registers and cells that a row names are there -/
def RIx (m : MS) : Row → Prop
  | .put _ r => r < 8
  | .tell r => r < 8
  | .same r s _ => r < 8 ∧ s < 8
  | .less r s _ => r < 8 ∧ s < 8
  | .set r _ => r < 8
  | .look r c => r < 8 ∧ c < m.cells.length
  | .copy r s => r < 8 ∧ s < 8
  | .add r s t => r < 8 ∧ s < 8 ∧ t < 8
  | .take r s t => r < 8 ∧ s < 8 ∧ t < 8
  | _ => True
theorem rowOk_ix {os : List Nat} {i len : Nat} {m : MS} {r : Row} (h : RowOk os i len r) (hc : m.cells.length = os.length) : RIx m r := by
  cases r with
  | set r n => exact h.1
  | look r c => exact ⟨h.1, by rw [hc]; exact h.2⟩
  | put c r => exact h.2
  | same r s to => exact ⟨h.1, h.2.1⟩
  | less r s to => exact ⟨h.1, h.2.1⟩
  | copy r s => exact h
  | add r s t => exact h
  | take r s t => exact h
  | tell r => exact h
  | _ => exact trivial
def codeT (c : List Row) : T := .tup (c.map rowT)
def putO : Option (Nat × Int) → T
  | none => .non
  | some (c, x) => .tup [.int c, .int x]
abbrev sp_after_row (C : Addr) : Sp := SpG (fun i : MS × List Row => MOk i.1 ∧ i.1.row < i.2.length ∧ RIx i.1 (rowAt i.2 i.1.row)) fun i => ([stP C i.1, Dat (codeT i.2)], TupP [stP C (aft i.1 (rowAt i.2 i.1.row)).1, Dat (putO (aft i.1 (rowAt i.2 i.1.row)).2)])
theorem ok_after_row (F : Fun K "after_row" "after_row" s_after_row f fd) (B : Bi mg) (M : Mods mg) (M_State_copied : GM P w K mg base C "copied" ps_State_copied 5 (sp_copied C) f1 fd1) (G_number_by : GF P w K mg base "number_by" ps_number_by 3 (sp_number_by C) f2 fd2)
    (G_at_fault : GF P w K mg base "at_fault" ps_at_fault 6 (sp_at_fault C) f3 fd3) (G_with_item : GF P w K mg base "with_item" ps_with_item 3 sp_set f4 fd4) {f5 : Addr} {fd5 : FuncData} (G_goes : GF P w K mg base "goes" ps_goes 3 (sp_goes C) f5 fd5) (O : OwnC K C stNs) :
    FnOk P w K mg base CX0 7 f fd ps_after_row (sp_after_row C) := by
  refine okG F sc_after_row (fun _ => rfl) fun cdv A outer s H E hr => ⟨_, (pss_cons (ps_set (i := 2) sc_after_row.nd rfl (Or.inl rfl) (pe_ix (kIx (r := rIxT) (K := K) ix_tup rfl) (pv 1) (kPF (K := K) (pe_fld (pv 0) rfl) rfl) (fun _ _ => rfl)))
  (pss_cons (ps_set (i := 3) sc_after_row.nd rfl (Or.inl rfl) (pe_ix (kIx (r := rIxT) (K := K) ix_tup rfl) (pv 2) pe_int (fun _ _ => rfl)))
  (pss_cons (ps_set (i := 4) sc_after_row.nd rfl (Or.inl rfl) (pe_m0 M_State_copied (hr.mono (by decide)) (pv 0)))
  (pss_cons (ps_fld (pv 4) (pe_op oAddI (kPF (K := K) (pe_fld (pv 0) rfl) rfl) pe_int) rfl)
  (pss_cons (ps_set (i := 5) sc_after_row.nd rfl (Or.inl rfl) pe_non)
  (pss_cons (ps_if (pt_cmpR (kOp (r := fun K => rIn K false) (K := K) op_in_seq rfl) (pv 3) (pe_tup (pa_cons pe_str (pa_cons pe_str (pa_cons pe_str (pa_cons pe_str (pa_cons pe_str pa_nil)))))) rfl)
  (pss_cons (ps_set (i := 6) sc_after_row.nd rfl (Or.inl rfl) (pe_f G_number_by (hr.mono (by decide)) rfl (pa_cons (pv 0) (pa_cons (pv 2) pa_nil))))
  (pss_cons (ps_if (pt_cmpR oGtI (pe_callB cAbs (by rfl) B.abs_ b_abs (pa_cons (pv 6) pa_nil)) (pe_gint M.MOST_SUM) (nomark _))
  (pss_one (ps_ret (pe_tup (pa_cons (pe_f G_at_fault (hr.mono (by decide)) rfl (pa_cons (pv 0) pa_nil)) (pa_cons pe_non pa_nil)))))
  pss_nil)
  (pss_one (ps_fld (pv 4) (pe_f G_with_item (hr.mono (by decide)) rfl (pa_cons (kPF (K := K) (pe_fld (pv 0) rfl) rfl) (pa_cons (pe_ix (kIx (r := rIxT) (K := K) ix_tup rfl) (pv 2) pe_int (fun _ _ => rfl)) (pa_cons (pv 6) pa_nil)))) rfl))))
  (pss_one (ps_if (pt_cmpR oEqS (pv 3) pe_str (nomark _))
  (pss_one (ps_set (i := 5) sc_after_row.nd rfl (Or.inl rfl) (pe_tup (pa_cons (pe_ix (kIx (r := rIxT) (K := K) ix_tup rfl) (pv 2) pe_int (fun _ _ => rfl)) (pa_cons (pe_ix (kIx (r := rIxT) (K := K) ix_tup rfl) (kPF (K := K) (pe_fld (pv 0) rfl) rfl) (pe_ix (kIx (r := rIxT) (K := K) ix_tup rfl) (pv 2) pe_int (fun _ _ => rfl)) (fun _ _ => rfl)) pa_nil)))))
  (pss_one (ps_if (pt_cmpR oEqS (pv 3) pe_str (nomark _))
  (pss_one (ps_fld (pv 4) (pe_op (kOp (r := rCatA) (K := K) op_catA rfl) (kPF (K := K) (pe_fld (pv 0) rfl) rfl) (pe_tup (pa_cons (pe_ix (kIx (r := rIxT) (K := K) ix_tup rfl) (kPF (K := K) (pe_fld (pv 0) rfl) rfl) (pe_ix (kIx (r := rIxT) (K := K) ix_tup rfl) (pv 2) pe_int (fun _ _ => rfl)) (fun _ _ => rfl)) pa_nil))) rfl))
  (pss_one (ps_if (pt_cmpR oEqS (pv 3) pe_str (nomark _))
  (pss_cons (ps_if (pt_cmpR oEqS (pe_callB (kC (r := rLenG) (K := K) cLen rfl) (by rfl) B.len_ b_len (pa_cons (kPF (K := K) (pe_fld (pv 0) rfl) rfl) pa_nil)) pe_int (nomark _))
  (pss_one (ps_ret (pe_tup (pa_cons (pe_f G_at_fault (hr.mono (by decide)) rfl (pa_cons (pv 0) pa_nil)) (pa_cons pe_non pa_nil)))))
  pss_nil)
  (pss_cons (ps_fld (pv 4) (pe_ix (kIx (r := rIxT) (K := K) ix_tup rfl) (kPF (K := K) (pe_fld (pv 0) rfl) rfl) (pe_un uNeg pe_int) (fun _ _ => rfl)) rfl)
  (pss_one (ps_fld (pv 4) (pe_slice (kSl (r := rSlA) (K := K) sl_tupA rfl) (kPF (K := K) (pe_fld (pv 0) rfl) rfl) po_none (po_some (pe_un uNeg pe_int))) rfl))))
  (pss_one (ps_if (PW.pt (pw_and (pt_cmpR oNeS (pv 3) pe_str (nomark _)) (pw_and1 (pt_val (pe_f G_goes (hr.mono (by decide)) rfl (pa_cons (pv 0) (pa_cons (pv 2) pa_nil)))))))
  (pss_cons (ps_fld (pv 4) (pe_ix (kIx (r := rIxT) (K := K) ix_tup rfl) (pv 2) (pe_un uNeg pe_int) (fun _ _ => rfl)) rfl)
  (pss_one (ps_if (pt_cmpR oEqS (pv 3) pe_str (nomark _))
  (pss_cons (ps_if (pt_cmpR oEqS (pe_callB (kC (r := rLenG) (K := K) cLen rfl) (by rfl) B.len_ b_len (pa_cons (kPF (K := K) (pe_fld (pv 0) rfl) rfl) pa_nil)) (pe_gint M.MOST_REMEMBERED) (nomark _))
  (pss_one (ps_ret (pe_tup (pa_cons (pe_f G_at_fault (hr.mono (by decide)) rfl (pa_cons (pv 0) pa_nil)) (pa_cons pe_non pa_nil)))))
  pss_nil)
  (pss_one (ps_fld (pv 4) (pe_op (kOp (r := rCatA) (K := K) op_catA rfl) (kPF (K := K) (pe_fld (pv 0) rfl) rfl) (pe_tup (pa_cons (pe_op oAddI (kPF (K := K) (pe_fld (pv 0) rfl) rfl) pe_int) pa_nil))) rfl)))
  pss_nil)))
  pss_nil)))))))))
  (pss_one (ps_ret (pe_tup (pa_cons (pv 4) (pa_cons (pv 5) pa_nil))))))))))), fun i F vs Q hp R q => ?_⟩
  obtain ⟨m, code⟩ := i
  obtain ⟨hm, hrow, hix⟩ : MOk m ∧ m.row < code.length ∧ RIx m (rowAt code m.row) := hp
  replace q : ∀ v F' H', Gr F H F' H' → (TupP [stP C (aft m (rowAt code m.row)).1, Dat (putO (aft m (rowAt code m.row)).2)]).p F' v → Q v H' := q
  have hreg : ∀ {j : Nat}, j < 8 → (m.regs.map enc)[j]? = some (enc (reg m j)) := fun h => enc_at (by rw [hm.regs]; exact h)
  have hrw : (code.map rowT)[m.row]? = some (rowT (rowAt code m.row)) := by rw [List.getElem?_map, row_at hrow]; rfl
  refine s_asg R (x_ixV (n := m.row) (x_var (P := Dat (.tup (code.map rowT))) rfl) (x_fld (x_var (P := stP C m) rfl) O (P := Dat (enc m.row)) (by decide +kernel) rfl) hrw) fun F H σ R => ?_
  generalize rowAt code m.row = r at hix q R
  refine s_asg R (x_ixC (n := 0) (ts := .str (wordOf r) :: argsOf r) (x_var (by rw [← rowT_eq]; rfl)) rfl) fun F H σ R => ?_
  refine s_methU R m hm.cells (x_var (P := stP C m) rfl) rfl a_nil rfl fun x F H σ R o h0 _ => ?_
  refine g_fld R o h0 (x_var rfl) (e_add (i := (m.row : Int)) (j := 1) (x_fld (x_var (P := stP C m) rfl) O (P := Dat (enc m.row)) (by decide +kernel) rfl) x_int) O (by decide +kernel) (of_decide_eq_true rfl) (tfs' := stF { m with row := m.row + 1 }) rfl fun F H R o => ?_
  refine g_asgS R (P := Dat .non) x_non fun F H σ g R => ?_
  replace o := o.step g
  clear g
  generalize hwd : wordOf r = wd at R
  have five : EvX (tTup (tCons (tC (.str "set")) (tCons (tC (.str "copy")) (tCons (tC (.str "add")) (tCons (tC (.str "take")) (tCons (tC (.str "look")) tNil)))))) [some (stP C m), some (Dat (codeT code)), some (Dat (rowT r)), some (Dat (.str wd)), some (Vl (.ref x)), some (Dat .non), none] (Dat (.tup ((["set", "copy", "add", "take", "look"] : List Str).map T.str))) :=
    strs_ev (a_cons x_str (a_cons x_str (a_cons x_str (a_cons x_str (a_cons x_str a_nil))))) (by decide)
  have fault : ∀ {F0 H0 F H : Hp} {σ : L2.St} {Ps : Tys} {D : Ends}, RS F0 H0 F H σ Ps → Ps[0]? = some (some (stP C m)) → (∀ v F' H', Gr F0 H0 F' H' → (TupP [stP C (bad m), Dat .non]).p F' v → D.rt v H') → tRet (tTup (tCons (tCall (sp_at_fault C) [] E0 (tCons (tVar 0) tNil)) (tCons (tC V.non) tNil))) D σ H :=
    fun R e k => s_ret R (x_tup (a_cons (x_call m hm (a_cons (x_var e) a_nil) rfl) (a_cons x_non a_nil)) (big (by show 2 ≤ _; decide))) k
  rcases Classical.em (∃ dst : Nat, dst < 8 ∧ aft m r = (num m dst (val m r), none) ∧ NumOk m r ∧ wd ∈ (["set", "copy", "add", "take", "look"] : List Str) ∧ (argsOf r)[0]? = some (.int (dst : Int))) with ⟨dst, hd, e, hno, hw, hdst⟩ | hnn
  · skip
    refine g_ifT R (x_test (e_inS (x_var rfl) five)) (decide_eq_true hw) fun F H g R => ?_
    replace o := o.step g
    refine g_asg R (x_call (P := Dat (.int (val m r))) (m, r) ⟨hm, hno⟩ (a_cons (x_var rfl) (a_cons (x_var rfl) a_nil)) rfl) fun F H σ g R => ?_
    replace o := o.step g
    by_cases hv : (val m r).natAbs ≤ 1000000000000
    · refine g_ifF R (x_test (e_gt (e_abs (x_var rfl)) x_int)) (decide_eq_false (by split <;> omega)) fun F H g R => ?_
      replace o := o.step g
      refine g_fld R o h0 (x_var rfl) (c_set (as := m.regs) (n := dst) (a := val m r) (x_fld (x_var (P := stP C m) rfl) O (P := Dat (enc m.regs)) (by decide +kernel) rfl) (x_ixC (n := 1) (ts := .str (wordOf r) :: argsOf r) (x_var (by rw [← rowT_eq]; rfl)) hdst) (x_var rfl) (by rw [hm.regs]; exact hd) (by rw [hm.regs]; decide)) O (by decide +kernel) (of_decide_eq_true rfl) rfl fun F H R o => ?_
      refine ret_pair (P5 := Dat .non) R o h0 rfl rfl fun v F' H' g p => q v F' H' g ?_
      rw [e]
      unfold G.num
      rw [if_pos hv]
      exact p
    · refine g_ifT R (x_test (e_gt (e_abs (x_var rfl)) x_int)) (decide_eq_true (by split <;> omega)) fun F H g R => ?_
      refine fault R rfl fun v F' H' g p => q v F' H' g ?_
      rw [e]
      unfold G.num
      rw [if_neg hv]
      exact p
  refine g_ifF R (x_test (e_inS (x_var rfl) five)) (by
    refine decide_eq_false fun hw => ?_
    cases r with
    | set a n => exact hnn ⟨a, hix, rfl, hix, hw, rfl⟩
    | copy a b => exact hnn ⟨a, hix.1, rfl, hix, hw, rfl⟩
    | add a b c => exact hnn ⟨a, hix.1, rfl, hix, hw, rfl⟩
    | take a b c => exact hnn ⟨a, hix.1, rfl, hix, hw, rfl⟩
    | look a b => exact hnn ⟨a, hix.1, rfl, hix, hw, rfl⟩
    | _ => rw [← hwd] at hw; revert hw; simp only [wordOf]; decide +kernel) fun F H g R => ?_
  replace o := o.step g
  clear five
  cases r with
  | set a n => exact absurd ⟨a, hix, rfl, hix, (by rw [← hwd]; simp only [wordOf]; decide +kernel), rfl⟩ hnn
  | copy a b => exact absurd ⟨a, hix.1, rfl, hix, (by rw [← hwd]; simp only [wordOf]; decide +kernel), rfl⟩ hnn
  | add a b c => exact absurd ⟨a, hix.1, rfl, hix, (by rw [← hwd]; simp only [wordOf]; decide +kernel), rfl⟩ hnn
  | take a b c => exact absurd ⟨a, hix.1, rfl, hix, (by rw [← hwd]; simp only [wordOf]; decide +kernel), rfl⟩ hnn
  | look a b => exact absurd ⟨a, hix.1, rfl, hix, (by rw [← hwd]; simp only [wordOf]; decide +kernel), rfl⟩ hnn
  | put c a =>
    obtain rfl : wd = ("put" : Str) := hwd.symm
    refine g_ifT R (x_test (e_eqS (x_var rfl) x_str)) (by decide +kernel) fun F H g R => ?_
    replace o := o.step g
    refine g_asg R (x_tupD (ts := [.int c, .int (reg m a)]) (a_cons (x_ixC (n := 1) (x_var (P := Dat (rowT (.put c a))) rfl) rfl) (a_cons (x_ixV (n := a) (x_fld (x_var (P := stP C m) rfl) O (P := Dat (enc m.regs)) (by decide +kernel) rfl) (x_ixC (n := 2) (x_var (P := Dat (rowT (.put c a))) rfl) rfl) (hreg hix)) a_nil)) (big (by show 2 ≤ _; decide))) fun F H σ g R => ?_
    replace o := o.step g
    exact ret_pair R o h0 rfl rfl q
  | tell a =>
    obtain rfl : wd = ("tell" : Str) := hwd.symm
    refine g_ifF R (x_test (e_eqS (x_var rfl) x_str)) (by decide +kernel) fun F H g R => ?_
    replace o := o.step g
    refine g_ifT R (x_test (e_eqS (x_var rfl) x_str)) (by decide +kernel) fun F H g R => ?_
    replace o := o.step g
    refine g_fld R o h0 (x_var rfl) (x_snoc (as := m.told) (a := reg m a) (x_fld (x_var (P := stP C m) rfl) O (P := Dat (enc m.told)) (by decide +kernel) rfl) (x_ixV (n := a) (x_fld (x_var (P := stP C m) rfl) O (P := Dat (enc m.regs)) (by decide +kernel) rfl) (x_ixC (n := 1) (x_var (P := Dat (rowT (.tell a))) rfl) rfl) (hreg hix)) (by have := hm.told; omega)) O (by decide +kernel) (of_decide_eq_true rfl) rfl fun F H R o => ?_
    exact ret_pair (P5 := Dat .non) R o h0 rfl rfl q
  | back =>
    obtain rfl : wd = ("back" : Str) := hwd.symm
    refine g_ifF R (x_test (e_eqS (x_var rfl) x_str)) (by decide +kernel) fun F H g R => ?_
    replace o := o.step g
    refine g_ifF R (x_test (e_eqS (x_var rfl) x_str)) (by decide +kernel) fun F H g R => ?_
    replace o := o.step g
    refine g_ifT R (x_test (e_eqS (x_var rfl) x_str)) (by decide +kernel) fun F H g R => ?_
    replace o := o.step g
    have hrem : ∀ {Ps : Tys}, Ps[0]? = some (some (stP C m)) → EvX (tFld K (tVar 0) "remembered") Ps (Dat (enc m.kept)) := fun e => x_fld (x_var (P := stP C m) e) O (by decide +kernel) rfl
    by_cases hk : 0 < m.kept.length
    · have hkm : (m.kept.map enc).length = m.kept.length := List.length_map ..
      refine g_ifF R (x_test (e_eqI (e_lenD (hrem rfl)) x_int)) (decide_eq_false (by rw [hkm]; omega)) fun F H g R => ?_
      replace o := o.step g
      have hlast : (m.kept.map enc)[m.kept.length - 1]? = some (enc (m.kept.getLastD 0)) := by
        rw [List.getElem?_map, ← List.getLast?_eq_getElem?, List.getLastD_eq_getLast?]
        cases hq : m.kept.getLast? with
        | none => rw [List.getLast?_eq_none_iff.mp hq] at hk; exact absurd hk (by decide)
        | some v => rfl
      refine g_fld R o h0 (x_var rfl) (x_ixD (n := m.kept.length - 1) (hrem rfl) (e_neg x_int) (by rw [hkm]; exact ixN_m1 hk) hlast) O (by decide +kernel) (of_decide_eq_true rfl) rfl fun F H R o => ?_
      refine g_fld R o h0 (x_var rfl) (x_slD (hrem rfl) o_none (o_some (e_neg x_int)) (us := m.kept.dropLast.map enc) (by rw [show (-1 : Int) = -1 from rfl, cut_last, List.map_dropLast])) O (by decide +kernel) (of_decide_eq_true rfl) rfl fun F H R o => ?_
      refine ret_pair (P5 := Dat .non) R o h0 rfl rfl fun v F' H' g p => q v F' H' g ?_
      show (TupP [stP C (if 0 < m.kept.length then _ else _), _]).p F' v
      rw [if_pos hk]
      exact p
    · have hkm : (m.kept.map enc).length = m.kept.length := List.length_map ..
      refine g_ifT R (x_test (e_eqI (e_lenD (hrem rfl)) x_int)) (decide_eq_true (by rw [hkm]; omega)) fun F H g R => ?_
      refine fault R rfl fun v F' H' g p => q v F' H' g ?_
      show (TupP [stP C (if 0 < m.kept.length then _ else _), _]).p F' v
      rw [if_neg hk]
      exact p
  | rest =>
    obtain rfl : wd = ("rest" : Str) := hwd.symm
    refine g_ifF R (x_test (e_eqS (x_var rfl) x_str)) (by decide +kernel) fun F H g R => ?_
    replace o := o.step g
    refine g_ifF R (x_test (e_eqS (x_var rfl) x_str)) (by decide +kernel) fun F H g R => ?_
    replace o := o.step g
    refine g_ifF R (x_test (e_eqS (x_var rfl) x_str)) (by decide +kernel) fun F H g R => ?_
    replace o := o.step g
    refine g_ifF R (x_and (c := true) (x_test (e_neS (x_var rfl) x_str)) fun h => absurd h (by decide +kernel)) (by decide +kernel) fun F H g R => ?_
    replace o := o.step g
    exact ret_pair (P5 := Dat .non) R o h0 rfl rfl q
  | same a b to =>
    obtain rfl : wd = ("same" : Str) := hwd.symm
    refine g_ifF R (x_test (e_eqS (x_var rfl) x_str)) (by decide +kernel) fun F H g R => ?_
    replace o := o.step g
    refine g_ifF R (x_test (e_eqS (x_var rfl) x_str)) (by decide +kernel) fun F H g R => ?_
    replace o := o.step g
    refine g_ifF R (x_test (e_eqS (x_var rfl) x_str)) (by decide +kernel) fun F H g R => ?_
    replace o := o.step g
    have hj : ∀ {Ps : Tys}, Ps[0]? = some (some (stP C m)) → Ps[2]? = some (some (Dat (rowT (.same a b to)))) → EvT (tTest (tCall (sp_goes C) [] E0 (tCons (tVar 0) (tCons (tVar 2) tNil)))) Ps (jump m (.same a b to)) := fun e1 e2 => x_test (x_call (P := Dat (.bl (jump m (.same a b to)))) (m, Row.same a b to) ⟨hm, hix⟩ (a_cons (x_var e1) (a_cons (x_var e2) a_nil)) rfl)
    by_cases hc : reg m a = reg m b
    · refine g_ifT R (x_and (x_test (e_neS (x_var rfl) x_str)) fun _ => hj rfl rfl) (by rw [show jump m (.same a b to) = decide (reg m a = reg m b) from rfl, decide_eq_true hc, Bool.and_true]; decide +kernel) fun F H g R => ?_
      replace o := o.step g
      refine g_fld R o h0 (x_var rfl) (x_ixD (n := 3) (ts := [.str "same", .int a, .int b, .int to]) (x_var (P := Dat (rowT (.same a b to))) rfl) (e_neg x_int) (ixN_m1 (Nat.succ_pos _)) rfl) O (by decide +kernel) (of_decide_eq_true rfl) rfl fun F H R o => ?_
      refine g_ifF R (x_test (e_eqS (x_var rfl) x_str)) (by decide +kernel) fun F H g R => ?_
      replace o := o.step g
      refine ret_pair (P5 := Dat .non) R o h0 rfl rfl fun v F' H' g p => q v F' H' g ?_
      show (TupP [stP C { m with row := if reg m a = reg m b then to else m.row + 1 }, _]).p F' v
      rw [if_pos hc]
      exact p
    · refine g_ifF R (x_and (x_test (e_neS (x_var rfl) x_str)) fun _ => hj rfl rfl) (by rw [show jump m (.same a b to) = decide (reg m a = reg m b) from rfl, decide_eq_false hc, Bool.and_false]) fun F H g R => ?_
      replace o := o.step g
      refine ret_pair (P5 := Dat .non) R o h0 rfl rfl fun v F' H' g p => q v F' H' g ?_
      show (TupP [stP C { m with row := if reg m a = reg m b then to else m.row + 1 }, _]).p F' v
      rw [if_neg hc]
      exact p
  | less a b to =>
    obtain rfl : wd = ("less" : Str) := hwd.symm
    refine g_ifF R (x_test (e_eqS (x_var rfl) x_str)) (by decide +kernel) fun F H g R => ?_
    replace o := o.step g
    refine g_ifF R (x_test (e_eqS (x_var rfl) x_str)) (by decide +kernel) fun F H g R => ?_
    replace o := o.step g
    refine g_ifF R (x_test (e_eqS (x_var rfl) x_str)) (by decide +kernel) fun F H g R => ?_
    replace o := o.step g
    have hj : ∀ {Ps : Tys}, Ps[0]? = some (some (stP C m)) → Ps[2]? = some (some (Dat (rowT (.less a b to)))) → EvT (tTest (tCall (sp_goes C) [] E0 (tCons (tVar 0) (tCons (tVar 2) tNil)))) Ps (jump m (.less a b to)) := fun e1 e2 => x_test (x_call (P := Dat (.bl (jump m (.less a b to)))) (m, Row.less a b to) ⟨hm, hix⟩ (a_cons (x_var e1) (a_cons (x_var e2) a_nil)) rfl)
    by_cases hc : reg m a < reg m b
    · refine g_ifT R (x_and (x_test (e_neS (x_var rfl) x_str)) fun _ => hj rfl rfl) (by rw [show jump m (.less a b to) = decide (reg m a < reg m b) from rfl, decide_eq_true hc, Bool.and_true]; decide +kernel) fun F H g R => ?_
      replace o := o.step g
      refine g_fld R o h0 (x_var rfl) (x_ixD (n := 3) (ts := [.str "less", .int a, .int b, .int to]) (x_var (P := Dat (rowT (.less a b to))) rfl) (e_neg x_int) (ixN_m1 (Nat.succ_pos _)) rfl) O (by decide +kernel) (of_decide_eq_true rfl) rfl fun F H R o => ?_
      refine g_ifF R (x_test (e_eqS (x_var rfl) x_str)) (by decide +kernel) fun F H g R => ?_
      replace o := o.step g
      refine ret_pair (P5 := Dat .non) R o h0 rfl rfl fun v F' H' g p => q v F' H' g ?_
      show (TupP [stP C { m with row := if reg m a < reg m b then to else m.row + 1 }, _]).p F' v
      rw [if_pos hc]
      exact p
    · refine g_ifF R (x_and (x_test (e_neS (x_var rfl) x_str)) fun _ => hj rfl rfl) (by rw [show jump m (.less a b to) = decide (reg m a < reg m b) from rfl, decide_eq_false hc, Bool.and_false]) fun F H g R => ?_
      replace o := o.step g
      refine ret_pair (P5 := Dat .non) R o h0 rfl rfl fun v F' H' g p => q v F' H' g ?_
      show (TupP [stP C { m with row := if reg m a < reg m b then to else m.row + 1 }, _]).p F' v
      rw [if_neg hc]
      exact p
  | go to =>
    obtain rfl : wd = ("go" : Str) := hwd.symm
    refine g_ifF R (x_test (e_eqS (x_var rfl) x_str)) (by decide +kernel) fun F H g R => ?_
    replace o := o.step g
    refine g_ifF R (x_test (e_eqS (x_var rfl) x_str)) (by decide +kernel) fun F H g R => ?_
    replace o := o.step g
    refine g_ifF R (x_test (e_eqS (x_var rfl) x_str)) (by decide +kernel) fun F H g R => ?_
    replace o := o.step g
    refine g_ifT R (x_and (x_test (e_neS (x_var rfl) x_str)) fun _ => x_test (x_call (P := Dat (.bl true)) (m, .go to) ⟨hm, trivial⟩ (a_cons (x_var rfl) (a_cons (x_var rfl) a_nil)) rfl)) (by decide +kernel) fun F H g R => ?_
    replace o := o.step g
    refine g_fld R o h0 (x_var rfl) (x_ixD (n := 1) (ts := [.str "go", .int to]) (x_var (P := Dat (rowT (.go to))) rfl) (e_neg x_int) (ixN_m1 (Nat.succ_pos _)) rfl) O (by decide +kernel) (of_decide_eq_true rfl) rfl fun F H R o => ?_
    refine g_ifF R (x_test (e_eqS (x_var rfl) x_str)) (by decide +kernel) fun F H g R => ?_
    replace o := o.step g
    exact ret_pair (P5 := Dat .non) R o h0 rfl rfl q
  | call to =>
    obtain rfl : wd = ("call" : Str) := hwd.symm
    refine g_ifF R (x_test (e_eqS (x_var rfl) x_str)) (by decide +kernel) fun F H g R => ?_
    replace o := o.step g
    refine g_ifF R (x_test (e_eqS (x_var rfl) x_str)) (by decide +kernel) fun F H g R => ?_
    replace o := o.step g
    refine g_ifF R (x_test (e_eqS (x_var rfl) x_str)) (by decide +kernel) fun F H g R => ?_
    replace o := o.step g
    refine g_ifT R (x_and (x_test (e_neS (x_var rfl) x_str)) fun _ => x_test (x_call (P := Dat (.bl true)) (m, .call to) ⟨hm, trivial⟩ (a_cons (x_var rfl) (a_cons (x_var rfl) a_nil)) rfl)) (by decide +kernel) fun F H g R => ?_
    replace o := o.step g
    refine g_fld R o h0 (x_var rfl) (x_ixD (n := 1) (ts := [.str "call", .int to]) (x_var (P := Dat (rowT (.call to))) rfl) (e_neg x_int) (ixN_m1 (Nat.succ_pos _)) rfl) O (by decide +kernel) (of_decide_eq_true rfl) rfl fun F H R o => ?_
    refine g_ifT R (x_test (e_eqS (x_var rfl) x_str)) (by decide +kernel) fun F H g R => ?_
    replace o := o.step g
    have hrem : ∀ {Ps : Tys}, Ps[0]? = some (some (stP C m)) → EvX (tFld K (tVar 0) "remembered") Ps (Dat (enc m.kept)) := fun e => x_fld (x_var (P := stP C m) e) O (by decide +kernel) rfl
    have hkm : (m.kept.map enc).length = m.kept.length := List.length_map ..
    have hk20 := hm.kept
    by_cases hk : m.kept.length < 20
    · refine g_ifF R (x_test (e_eqI (e_lenD (hrem rfl)) x_int)) (decide_eq_false (by rw [hkm]; omega)) fun F H g R => ?_
      replace o := o.step g
      refine g_fld R o h0 (x_var rfl) (x_snoc (as := m.kept) (a := m.row + 1) (hrem rfl) ((e_add (i := (m.row : Int)) (j := 1) (x_fld (x_var (P := stP C m) rfl) O (P := Dat (enc m.row)) (by decide +kernel) rfl) x_int).cast rfl) (by omega)) O (by decide +kernel) (of_decide_eq_true rfl) rfl fun F H R o => ?_
      refine ret_pair (P5 := Dat .non) R o h0 rfl rfl fun v F' H' g p => q v F' H' g ?_
      show (TupP [stP C (if m.kept.length < 20 then _ else _), _]).p F' v
      rw [if_pos hk]
      exact p
    · refine g_ifT R (x_test (e_eqI (e_lenD (hrem rfl)) x_int)) (decide_eq_true (by rw [hkm]; omega)) fun F H g R => ?_
      refine fault R rfl fun v F' H' g p => q v F' H' g ?_
      show (TupP [stP C (if m.kept.length < 20 then _ else _), _]).p F' v
      rw [if_neg hk]
      exact p
end
end G
namespace G
open PySem PySem.Spec PyProof.Rows L2
open Enc (enc)
abbrev s_law_first : Stmt := top 54
abbrev nm_law_first : List Str := ["_law_wires_here", "_law_owners", "_law_codes", "_law_state"]
abbrev ps_law_first : List Str := ["_law_wires_here", "_law_owners", "_law_codes"]
theorem sc_law_first : FnScope nm_law_first ps_law_first (defScope s_law_first) := ⟨rfl, rfl, rfl, by decide +kernel, rfl, by decide +kernel, by decide +kernel⟩
abbrev s_law_whole : Stmt := top 55
abbrev nm_law_whole : List Str := ["_law_thing", "_law_least", "_law_most"]
abbrev ps_law_whole : List Str := ["_law_thing", "_law_least", "_law_most"]
theorem sc_law_whole : FnScope nm_law_whole ps_law_whole (defScope s_law_whole) := ⟨rfl, rfl, rfl, by decide +kernel, rfl, by decide +kernel, by decide +kernel⟩
abbrev s_law_sum : Stmt := top 58
abbrev nm_law_sum : List Str := ["_law_state", "_law_row_here", "_law_regs"]
abbrev ps_law_sum : List Str := ["_law_state", "_law_row_here"]
theorem sc_law_sum : FnScope nm_law_sum ps_law_sum (defScope s_law_sum) := ⟨rfl, rfl, rfl, by decide +kernel, rfl, by decide +kernel, by decide +kernel⟩
abbrev s_law_noted : Stmt := top 62
abbrev nm_law_noted : List Str := ["_law_state", "_law_put", "_law_at", "_law_regs", "_law_kept", "_law_told", "_law_cells", "_law_diary", "_law_fault"]
abbrev ps_law_noted : List Str := ["_law_state", "_law_put"]
theorem sc_law_noted : FnScope nm_law_noted ps_law_noted (defScope s_law_noted) := ⟨rfl, rfl, rfl, by decide +kernel, rfl, by decide +kernel, by decide +kernel⟩
abbrev s_law_sent : Stmt := top 61
abbrev nm_law_sent : List Str := ["_law_wires_here", "_law_letters", "_law_machine", "_law_put", "_law_wire", "_law_row_here"]
abbrev ps_law_sent : List Str := ["_law_wires_here", "_law_letters", "_law_machine", "_law_put"]
theorem sc_law_sent : FnScope nm_law_sent ps_law_sent (defScope s_law_sent) := ⟨rfl, rfl, rfl, by decide +kernel, rfl, by decide +kernel, by decide +kernel⟩
section
variable {P : Program} {w : World} {K : PySem.W.Frag} {mg : Str → Option Value} {base : Heap} {f f1 f2 f3 f4 C : Addr} {fd fd1 fd2 fd3 fd4 : FuncData}
/-- how a machine stands, in a word -/
def wordW (m : MS) (code : List Row) (b : Bool) : Str := if m.fault = true then "fault" else if m.row = code.length then "end" else if rowAt code m.row = .rest ∧ b = false then "rests" else "runs"
theorem code_len (c : List Row) : (c.map rowT).length = c.length := List.length_map ..
theorem restT {K : PySem.W.Frag} {Ps : Tys} : EvX (tTup (tCons (tC (.str "rest")) tNil)) Ps (Dat (rowT .rest)) := x_tupD (a_cons x_str a_nil) (big (by show 1 ≤ _; decide))
theorem e_isRest {K : PySem.W.Frag} {Ps : Tys} {ta : TE} {r : Row} (h : EvX ta Ps (Dat (rowT r))) : EvX (tOp (rEqD K) ta (tTup (tCons (tC (.str "rest")) tNil))) Ps (Dat (.bl (decide (r = .rest)))) := by
  rw [← rest_eqv]
  exact e_eqD h (restT (K := K)) (row_shaped _) (row_shaped _)
theorem e_noRest {K : PySem.W.Frag} {Ps : Tys} {ta : TE} {r : Row} (h : EvX ta Ps (Dat (rowT r))) : EvX (tOp (rNeD K) ta (tTup (tCons (tC (.str "rest")) tNil))) Ps (Dat (.bl (!decide (r = .rest)))) := by
  rw [← rest_eqv]
  exact e_neD h (restT (K := K)) (row_shaped _) (row_shaped _)
theorem e_rowAt {K : PySem.W.Frag} {Ps : Tys} {ta tb : TE} {c : List Row} {n : Nat} (ha : EvX ta Ps (Dat (codeT c))) (hb : EvX tb Ps (Dat (.int (n : Int)))) (hn : n < c.length) : EvX (tOp (rIxT K) ta tb) Ps (Dat (rowT (rowAt c n))) :=
  x_ixV ha hb (by rw [List.getElem?_map, row_at hn]; rfl)
theorem e_codeLen {K : PySem.W.Frag} {Ps : Tys} {ta : TE} {c : List Row} (ha : EvX ta Ps (Dat (codeT c))) : EvX (tCB (rLenG K) (tCons ta tNil)) Ps (Dat (.int (c.length : Int))) := by
  have := e_lenD (K := K) (ts := c.map rowT) ha
  rw [code_len] at this
  exact this
theorem nat_eq {i j : Nat} : decide ((i : Int) = (j : Int)) = decide (i = j) := decide_eq_decide.mpr (by omega)
abbrev sp_word_of (C : Addr) : Sp := SpG (fun i : MS × List Row × Bool => i.1.row ≤ i.2.1.length) fun i => ([stP C i.1, Dat (codeT i.2.1), Dat (.bl i.2.2)], Dat (.str (wordW i.1 i.2.1 i.2.2)))
theorem ok_word_of (F : Fun K "word_of" "word_of" s_word_of f fd) (B : Bi mg) (O : OwnC K C stNs) : FnOk P w K mg base CX0 3 f fd ps_word_of (sp_word_of C) := by
  refine okG F sc_word_of (fun _ => rfl) fun cdv A outer s H E hr => ⟨_, (pss_cons (ps_if (pt_not (pt_val (kPF (K := K) (pe_fld (pv 0) rfl) rfl)))
  (pss_one (ps_ret pe_str))
  pss_nil)
  (pss_cons (ps_if (pt_val (kPF (K := K) (pe_fld (pv 0) rfl) rfl))
  (pss_one (ps_ret pe_str))
  pss_nil)
  (pss_cons (ps_if (pt_cmpR oEqS (kPF (K := K) (pe_fld (pv 0) rfl) rfl) (pe_callB (kC (r := rLenG) (K := K) cLen rfl) (by rfl) B.len_ b_len (pa_cons (pv 1) pa_nil)) (nomark _))
  (pss_one (ps_ret pe_str))
  pss_nil)
  (pss_one (ps_ret (pe_ifExp (PW.pt (pw_and (pt_cmpR (kOp (r := rEqD) (K := K) (op_eqD (ru64 (hr.mono (by decide)))) rfl) (pe_ix (kIx (r := rIxT) (K := K) ix_tup rfl) (pv 1) (kPF (K := K) (pe_fld (pv 0) rfl) rfl) (fun _ _ => rfl)) (pe_tup (pa_cons pe_str pa_nil)) (nomark _)) (pw_and1 (pt_not (pt_val (pv 2)))))) pe_str pe_str)))))), fun i F vs Q hp R q => ?_⟩
  obtain ⟨m, code, b⟩ := i
  replace hp : m.row ≤ code.length := hp
  replace q : ∀ v F' H', Gr F H F' H' → (Dat (.str (wordW m code b))).p F' v → Q v H' := q
  unfold wordW at q
  refine s_ifF R (x_not (x_test (x_fld (x_var (P := stP C m) rfl) O (P := Dat (.bl true)) (by decide +kernel) rfl))) rfl fun F H R => ?_
  cases hf : m.fault with
  | true =>
    rw [if_pos hf] at q
    exact s_ifT R (x_test (x_fld (x_var (P := stP C m) rfl) O (P := Dat (.bl m.fault)) (by decide +kernel) rfl)) hf fun F H R => s_ret R x_str q
  | false =>
    rw [if_neg (by rw [hf]; decide)] at q
    refine s_ifF R (x_test (x_fld (x_var (P := stP C m) rfl) O (P := Dat (.bl m.fault)) (by decide +kernel) rfl)) hf fun F H R => ?_
    have hrow : ∀ {Ps : Tys}, Ps[0]? = some (some (stP C m)) → EvX (tFld K (tVar 0) "row") Ps (Dat (.int (m.row : Int))) := fun e => x_fld (x_var (P := stP C m) e) O (by decide +kernel) rfl
    by_cases hl : m.row = code.length
    · rw [if_pos hl] at q
      exact s_ifT R (x_test (e_eqI (hrow rfl) (e_codeLen (x_var rfl)))) (by rw [nat_eq]; exact decide_eq_true hl) fun F H R => s_ret R x_str q
    · rw [if_neg hl] at q
      refine s_ifF R (x_test (e_eqI (hrow rfl) (e_codeLen (x_var rfl)))) (by rw [nat_eq]; exact decide_eq_false hl) fun F H R => ?_
      refine s_ret R (x_ifE (x_and (x_test (e_isRest (e_rowAt (c := code) (n := m.row) (x_var rfl) (hrow rfl) (by omega)))) fun _ => x_not (x_test (x_var rfl))) (fun h => ?_) fun h => ?_) q
      · rw [Bool.and_eq_true, decide_eq_true_eq, Bool.not_eq_true'] at h
        rw [if_pos h]
        exact x_str
      · rw [if_neg (fun z => by rw [decide_eq_true z.1, z.2] at h; cases h)]
        exact x_str
/-! ### the law's defs -/
abbrev wsT (ws : List (Nat × Nat)) : T := enc ws
abbrev osT (os : List Nat) : T := enc os
def csT (cs : List (List Row)) : T := .tup (cs.map codeT)
theorem reps {α : Type} [DecidableEq α] [Enc α] (n : Nat) (a : α) : List.replicate n (enc a) = (List.replicate n a).map enc := by
  rw [List.map_replicate]
theorem e_repE {α : Type} [DecidableEq α] [Enc α] {K : PySem.W.Frag} {Ps : Tys} {ta tb : TE} {a : α} {n : Nat} (ha : EvX ta Ps (Dat (enc a))) (hb : EvX tb Ps (Dat (.int (n : Int)))) (hn : n ≤ 1000) : EvX (tOp (rRepA K) (tTup (tCons ta tNil)) tb) Ps (Dat (enc (List.replicate n a))) := by
  have := e_repD (K := K) (x_tupD (ts := [enc a]) (a_cons ha a_nil) (big (by show 1 ≤ _; decide))) hb hn
  rw [reps] at this
  exact this
theorem e_lenE {α : Type} [DecidableEq α] [Enc α] {K : PySem.W.Frag} {Ps : Tys} {ta : TE} {as : List α} (ha : EvX ta Ps (Dat (.tup (as.map enc)))) : EvX (tCB (rLenG K) (tCons ta tNil)) Ps (Dat (.int (as.length : Int))) := by
  have := e_lenD (K := K) ha
  rw [List.length_map] at this
  exact this
theorem e_unitE {α : Type} [DecidableEq α] [Enc α] {Ps : Tys} : EvX (tTup tNil) Ps (Dat (enc ([] : List α))) := e_unit
theorem e_wsLen {K : PySem.W.Frag} {Ps : Tys} {ta : TE} {ws : List (Nat × Nat)} (ha : EvX ta Ps (wsP ws)) : EvX (tCB (rLenG K) (tCons ta tNil)) Ps (Dat (.int (ws.length : Int))) := by
  have := e_lenZ (K := K) ha
  rw [List.length_map] at this
  exact this
abbrev sp_law_first : Sp := SpG (fun g : PG => g.os.length ≤ 1000 ∧ g.cs.length ≤ 1000 ∧ g.ws.length ≤ 1000) fun g => ([wsP g.ws, Dat (osT g.os), Dat (csT g.cs)], Dat (enc (first g)))
theorem ok__law_first (F : Fun K "_law_first" "_law_first" s_law_first f fd) (B : Bi mg) : FnOk P w K mg base CX0 3 f fd ps_law_first sp_law_first := by
  refine okG F sc_law_first (fun _ => rfl) fun cdv A outer s H E hr => ⟨_, (pss_cons (ps_set (i := 3) sc_law_first.nd rfl (Or.inl rfl) (pe_tup (pa_cons pe_int (pa_cons (pe_op (kOp (r := rRepA) (K := K) op_repA rfl) (pe_tup (pa_cons pe_int pa_nil)) pe_int) (pa_cons (pe_tup pa_nil) (pa_cons (pe_tup pa_nil) (pa_cons (pe_op (kOp (r := rRepA) (K := K) op_repA rfl) (pe_tup (pa_cons pe_int pa_nil)) (pe_callB (kC (r := rLenG) (K := K) cLen rfl) (by rfl) B.len_ b_len (pa_cons (pv 1) pa_nil))) (pa_cons (pe_tup pa_nil) (pa_cons pe_bl pa_nil)))))))))
  (pss_one (ps_ret (pe_tup (pa_cons (pe_op (kOp (r := rRepA) (K := K) op_repA rfl) (pe_tup (pa_cons (pv 3) pa_nil)) (pe_callB (kC (r := rLenG) (K := K) cLen rfl) (by rfl) B.len_ b_len (pa_cons (pv 2) pa_nil))) (pa_cons (pe_op (kOp (r := rRepA) (K := K) op_repA rfl) (pe_tup (pa_cons (pe_tup pa_nil) pa_nil)) (pe_callB (kC (r := rLenG) (K := K) cLen rfl) (by rfl) B.len_ b_len (pa_cons (pv 0) pa_nil))) pa_nil)))))), fun g F vs Q hp R q => ?_⟩
  obtain ⟨h1, h2, h3⟩ := hp
  let m0 : MS := ⟨0, List.replicate 8 0, [], [], List.replicate g.os.length 0, [], false⟩
  refine s_asg R (P := Dat (enc m0)) (x_tupD (ts := [enc m0.row, enc m0.regs, enc m0.kept, enc m0.told, enc m0.cells, enc m0.diary, enc m0.fault]) (a_cons x_int (a_cons (e_zeros (n := 8) x_int (by decide)) (a_cons e_unit (a_cons e_unit (a_cons (e_zeros (n := g.os.length) (e_lenE (x_var (P := Dat (.tup (g.os.map enc))) rfl)) h1) (a_cons e_unit (a_cons x_bl a_nil))))))) (big (by show 7 ≤ _; decide))) fun F H σ R => ?_
  have hcs : EvX (tCB (rLenG K) (tCons (tVar 2) tNil)) ((stT nm_law_first [wsP g.ws, Dat (osT g.os), Dat (csT g.cs)]).set 3 (some (Dat (enc m0)))) (Dat (.int (g.cs.length : Int))) := by
    have := e_lenD (K := K) (Ps := (stT nm_law_first [wsP g.ws, Dat (osT g.os), Dat (csT g.cs)]).set 3 (some (Dat (enc m0)))) (te := tVar 2) (ts := g.cs.map codeT) (x_var rfl)
    rw [List.length_map] at this
    exact this
  exact s_ret R (x_tupD (ts := [enc (List.replicate g.cs.length m0), enc (List.replicate g.ws.length ([] : List Put))]) (a_cons (e_repE (x_var rfl) hcs h2) (a_cons (e_repE e_unitE (e_wsLen (x_var rfl)) h3) a_nil)) (big (by show 2 ≤ _; decide))) q
abbrev sp_law_whole : Sp := SpG (fun _ : Int × Int × Int => True) fun i => ([Dat (.int i.1), Dat (.int i.2.1), Dat (.int i.2.2)], Dat (.bl (decide (i.2.1 ≤ i.1) && decide (i.1 ≤ i.2.2))))
theorem ok__law_whole (F : Fun K "_law_whole" "_law_whole" s_law_whole f fd) (B : Bi mg) : FnOk P w K mg base CX0 3 f fd ps_law_whole sp_law_whole := by
  refine okG F sc_law_whole (fun _ => rfl) fun cdv A outer s H E hr => ⟨_, (pss_one (ps_ret (pe_and (pe_callB (kC (r := rIsi) (K := K) call_isi rfl) (by rfl) B.isinstance_ b_isinstance (pa_cons (pv 0) (pa_cons (pe_bltn (v := .ty "int") (by rfl) B.int_ b_int rfl) pa_nil))) (pe_and (pe_not (pe_callB (kC (r := rIsi) (K := K) call_isi rfl) (by rfl) B.isinstance_ b_isinstance (pa_cons (pv 0) (pa_cons (pe_bltn (v := .ty "bool") (by rfl) B.bool_ b_bool rfl) pa_nil)))) (pe_one (pe_chain oLeI oLeI (pv 1) (pv 0) (pv 2))))))), fun i F vs Q hp R q => ?_⟩
  obtain ⟨a, b, c⟩ := i
  refine' s_ret R (EvX.cast ?h ?e) q
  case h => walk_at "ev"
  case e => rfl
theorem m_at {m : MS} {n : Nat} {t : T} {K : PySem.W.Frag} {Ps : Tys} {ta : TE} (ha : EvX ta Ps (Dat (enc m))) (h : [enc m.row, enc m.regs, enc m.kept, enc m.told, enc m.cells, enc m.diary, enc m.fault][n]? = some t) : EvX (tOp (rIxT K) ta (tC (.int (n : Int)))) Ps (Dat t) :=
  x_ixC (ts := [enc m.row, enc m.regs, enc m.kept, enc m.told, enc m.cells, enc m.diary, enc m.fault]) ha h
abbrev sp_law_sum : Sp := SpG (fun i : MS × Row => MOk i.1 ∧ NumOk i.1 i.2) fun i => ([Dat (enc i.1), Dat (rowT i.2)], Dat (.int (val i.1 i.2)))
theorem ok__law_sum (F : Fun K "_law_sum" "_law_sum" s_law_sum f fd) : FnOk P w K mg base CX0 3 f fd ps_law_sum sp_law_sum := by
  refine okG F sc_law_sum (fun _ => rfl) fun cdv A outer s H E hr => ⟨_, (pss_cons (ps_set (i := 2) sc_law_sum.nd rfl (Or.inl rfl) (pe_ix (kIx (r := rIxT) (K := K) ix_tup rfl) (pv 0) pe_int (fun _ _ => rfl)))
  (pss_cons (ps_if (pt_cmpR oEqS (pe_ix (kIx (r := rIxT) (K := K) ix_tup rfl) (pv 1) pe_int (fun _ _ => rfl)) pe_str (nomark _))
  (pss_one (ps_ret (pe_ix (kIx (r := rIxT) (K := K) ix_tup rfl) (pv 1) pe_int (fun _ _ => rfl))))
  pss_nil)
  (pss_cons (ps_if (pt_cmpR oEqS (pe_ix (kIx (r := rIxT) (K := K) ix_tup rfl) (pv 1) pe_int (fun _ _ => rfl)) pe_str (nomark _))
  (pss_one (ps_ret (pe_ix (kIx (r := rIxT) (K := K) ix_tup rfl) (pe_ix (kIx (r := rIxT) (K := K) ix_tup rfl) (pv 0) pe_int (fun _ _ => rfl)) (pe_ix (kIx (r := rIxT) (K := K) ix_tup rfl) (pv 1) pe_int (fun _ _ => rfl)) (fun _ _ => rfl))))
  pss_nil)
  (pss_cons (ps_if (pt_cmpR oEqS (pe_ix (kIx (r := rIxT) (K := K) ix_tup rfl) (pv 1) pe_int (fun _ _ => rfl)) pe_str (nomark _))
  (pss_one (ps_ret (pe_ix (kIx (r := rIxT) (K := K) ix_tup rfl) (pv 2) (pe_ix (kIx (r := rIxT) (K := K) ix_tup rfl) (pv 1) pe_int (fun _ _ => rfl)) (fun _ _ => rfl))))
  pss_nil)
  (pss_one (ps_ret (pe_ifExp (pt_cmpR oEqS (pe_ix (kIx (r := rIxT) (K := K) ix_tup rfl) (pv 1) pe_int (fun _ _ => rfl)) pe_str (nomark _)) (pe_op oAddI (pe_ix (kIx (r := rIxT) (K := K) ix_tup rfl) (pv 2) (pe_ix (kIx (r := rIxT) (K := K) ix_tup rfl) (pv 1) pe_int (fun _ _ => rfl)) (fun _ _ => rfl)) (pe_ix (kIx (r := rIxT) (K := K) ix_tup rfl) (pv 2) (pe_ix (kIx (r := rIxT) (K := K) ix_tup rfl) (pv 1) pe_int (fun _ _ => rfl)) (fun _ _ => rfl))) (pe_op oSubI (pe_ix (kIx (r := rIxT) (K := K) ix_tup rfl) (pv 2) (pe_ix (kIx (r := rIxT) (K := K) ix_tup rfl) (pv 1) pe_int (fun _ _ => rfl)) (fun _ _ => rfl)) (pe_ix (kIx (r := rIxT) (K := K) ix_tup rfl) (pv 2) (pe_ix (kIx (r := rIxT) (K := K) ix_tup rfl) (pv 1) pe_int (fun _ _ => rfl)) (fun _ _ => rfl)))))))))), fun i F vs Q hp R q => ?_⟩
  obtain ⟨m, r⟩ := i
  obtain ⟨hm, hn⟩ := hp
  have hreg : ∀ {j : Nat}, j < 8 → (m.regs.map enc)[j]? = some (enc (reg m j)) := fun h => enc_at (by rw [hm.regs]; exact h)
  refine s_asg R (m_at (n := 1) (x_var (P := Dat (enc m)) rfl) rfl) fun F H σ R => ?_
  cases r with
  | set r n => exact s_ifT R (x_test (e_eqS (x_ixC (n := 0) (x_var (P := Dat (rowT (.set r n))) rfl) rfl) x_str)) (by decide +kernel) fun F H R => s_ret R (x_ixC (n := 2) (x_var (P := Dat (rowT (.set r n))) rfl) rfl) q
  | look r c =>
    refine s_ifF R (x_test (e_eqS (x_ixC (n := 0) (x_var (P := Dat (rowT (.look r c))) rfl) rfl) x_str)) (by decide +kernel) fun F H R => ?_
    refine s_ifT R (x_test (e_eqS (x_ixC (n := 0) (x_var (P := Dat (rowT (.look r c))) rfl) rfl) x_str)) (by decide +kernel) fun F H R => ?_
    exact s_ret R (x_ixV (n := c) (m_at (n := 4) (x_var (P := Dat (enc m)) rfl) rfl) (x_ixC (n := 2) (x_var (P := Dat (rowT (.look r c))) rfl) rfl) (enc_at hn.2)) q
  | copy r c =>
    refine s_ifF R (x_test (e_eqS (x_ixC (n := 0) (x_var (P := Dat (rowT (.copy r c))) rfl) rfl) x_str)) (by decide +kernel) fun F H R => ?_
    refine s_ifF R (x_test (e_eqS (x_ixC (n := 0) (x_var (P := Dat (rowT (.copy r c))) rfl) rfl) x_str)) (by decide +kernel) fun F H R => ?_
    refine s_ifT R (x_test (e_eqS (x_ixC (n := 0) (x_var (P := Dat (rowT (.copy r c))) rfl) rfl) x_str)) (by decide +kernel) fun F H R => ?_
    exact s_ret R (x_ixV (n := c) (x_var (P := Dat (enc m.regs)) rfl) (x_ixC (n := 2) (x_var (P := Dat (rowT (.copy r c))) rfl) rfl) (hreg hn.2)) q
  | add r a b =>
    refine s_ifF R (x_test (e_eqS (x_ixC (n := 0) (x_var (P := Dat (rowT (.add r a b))) rfl) rfl) x_str)) (by decide +kernel) fun F H R => ?_
    refine s_ifF R (x_test (e_eqS (x_ixC (n := 0) (x_var (P := Dat (rowT (.add r a b))) rfl) rfl) x_str)) (by decide +kernel) fun F H R => ?_
    refine s_ifF R (x_test (e_eqS (x_ixC (n := 0) (x_var (P := Dat (rowT (.add r a b))) rfl) rfl) x_str)) (by decide +kernel) fun F H R => ?_
    exact s_ret R (x_ifE (x_test (e_eqS (x_ixC (n := 0) (x_var (P := Dat (rowT (.add r a b))) rfl) rfl) x_str))
      (fun _ => e_add (x_ixV (n := a) (x_var (P := Dat (enc m.regs)) rfl) (x_ixC (n := 2) (x_var (P := Dat (rowT (.add r a b))) rfl) rfl) (hreg hn.2.1)) (x_ixV (n := b) (x_var (P := Dat (enc m.regs)) rfl) (x_ixC (n := 3) (x_var (P := Dat (rowT (.add r a b))) rfl) rfl) (hreg hn.2.2)))
      fun h => absurd h (by decide +kernel)) q
  | take r a b =>
    refine s_ifF R (x_test (e_eqS (x_ixC (n := 0) (x_var (P := Dat (rowT (.take r a b))) rfl) rfl) x_str)) (by decide +kernel) fun F H R => ?_
    refine s_ifF R (x_test (e_eqS (x_ixC (n := 0) (x_var (P := Dat (rowT (.take r a b))) rfl) rfl) x_str)) (by decide +kernel) fun F H R => ?_
    refine s_ifF R (x_test (e_eqS (x_ixC (n := 0) (x_var (P := Dat (rowT (.take r a b))) rfl) rfl) x_str)) (by decide +kernel) fun F H R => ?_
    exact s_ret R (x_ifE (x_test (e_eqS (x_ixC (n := 0) (x_var (P := Dat (rowT (.take r a b))) rfl) rfl) x_str))
      (fun h => absurd h (by decide +kernel))
      fun _ => e_sub (x_ixV (n := a) (x_var (P := Dat (enc m.regs)) rfl) (x_ixC (n := 2) (x_var (P := Dat (rowT (.take r a b))) rfl) rfl) (hreg hn.2.1)) (x_ixV (n := b) (x_var (P := Dat (enc m.regs)) rfl) (x_ixC (n := 3) (x_var (P := Dat (rowT (.take r a b))) rfl) rfl) (hreg hn.2.2))) q
  | _ => exact hn.elim
abbrev ps4 (p : Put) : List T := [enc p.w, enc p.n, enc p.c, enc p.x]
abbrev sp_law_noted : Sp := SpG (fun i : MS × Put => MOk i.1 ∧ i.2.c < i.1.cells.length) fun i => ([Dat (enc i.1), Dat (enc i.2)], Dat (enc (noted i.1 i.2)))
theorem ok__law_noted (F : Fun K "_law_noted" "_law_noted" s_law_noted f fd) (G_law_set : GF P w K mg base "_law_set" ps_law_set 3 sp_set f1 fd1) : FnOk P w K mg base CX0 4 f fd ps_law_noted sp_law_noted := by
  refine okG F sc_law_noted (fun _ => rfl) fun cdv A outer s H E hr => ⟨_, (pss_cons (ps_asg (pv 0) (kPG (K := K) (pg_tup (n := 7) rfl (pgs_cons (pg_name (i := 2) sc_law_noted.nd rfl (Or.inl rfl)) (pgs_cons (pg_name (i := 3) sc_law_noted.nd rfl (Or.inl rfl)) (pgs_cons (pg_name (i := 4) sc_law_noted.nd rfl (Or.inl rfl)) (pgs_cons (pg_name (i := 5) sc_law_noted.nd rfl (Or.inl rfl)) (pgs_cons (pg_name (i := 6) sc_law_noted.nd rfl (Or.inl rfl)) (pgs_cons (pg_name (i := 7) sc_law_noted.nd rfl (Or.inl rfl)) (pgs_cons (pg_name (i := 8) sc_law_noted.nd rfl (Or.inl rfl)) pgs_nil)))))))) rfl))
  (pss_one (ps_ret (pe_tup (pa_cons (pv 2) (pa_cons (pv 3) (pa_cons (pv 4) (pa_cons (pv 5) (pa_cons (pe_f G_law_set (hr.mono (by decide)) rfl (pa_cons (pv 6) (pa_cons (pe_ix (kIx (r := rIxT) (K := K) ix_tup rfl) (pv 1) pe_int (fun _ _ => rfl)) (pa_cons (pe_ix (kIx (r := rIxT) (K := K) ix_tup rfl) (pv 1) pe_int (fun _ _ => rfl)) pa_nil)))) (pa_cons (pe_op (kOp (r := rCatA) (K := K) op_catA rfl) (pv 7) (pe_tup (pa_cons (pv 1) pa_nil))) (pa_cons (pv 8) pa_nil))))))))))), fun i F vs Q hp R q => ?_⟩
  obtain ⟨m, p⟩ := i
  obtain ⟨hm, hc⟩ : MOk m ∧ p.c < m.cells.length := hp
  have hd : m.diary.length ≤ 50000 := hm.diary
  have hz : m.cells.length ≤ 1000 := hm.cells
  refine s_unpD (is := [2, 3, 4, 5, 6, 7, 8]) (ts := [enc m.row, enc m.regs, enc m.kept, enc m.told, enc m.cells, enc m.diary, enc m.fault]) R (x_var rfl) rfl rfl fun F H σ R => ?_
  exact s_ret R (x_tupD (ts := [enc m.row, enc m.regs, enc m.kept, enc m.told, enc (m.cells.set p.c p.x), enc (m.diary ++ [p]), enc m.fault]) (a_cons (x_var rfl) (a_cons (x_var rfl) (a_cons (x_var rfl) (a_cons (x_var rfl) (a_cons (c_set (as := m.cells) (n := p.c) (a := p.x) (x_var rfl) (x_ixC (n := 2) (ts := ps4 p) (x_var rfl) rfl) (x_ixC (n := 3) (ts := ps4 p) (x_var rfl) rfl) hc (by omega))
    (a_cons (x_snoc (as := m.diary) (a := p) (x_var rfl) (x_var rfl) (by omega)) (a_cons (x_var rfl) a_nil))))))) (big (by show 7 ≤ _; decide))) q
end
end G
namespace G
open PySem PySem.Spec PyProof.Rows L2
open Enc (enc)
abbrev s_law_after : Stmt := top 60
abbrev nm_law_after : List Str := ["_law_state", "_law_code", "_law_at", "_law_regs", "_law_kept", "_law_told", "_law_cells", "_law_diary", "_law_fault", "_law_row_here", "_law_bad", "_law_number", "_law_goes"]
abbrev ps_law_after : List Str := ["_law_state", "_law_code"]
theorem sc_law_after : FnScope nm_law_after ps_law_after (defScope s_law_after) := ⟨rfl, rfl, rfl, by decide +kernel, rfl, by decide +kernel, by decide +kernel⟩
abbrev s_law_runs : Stmt := top 56
abbrev nm_law_runs : List Str := ["_law_states", "_law_codes", "_law_machine", "_law_state", "_law_put", "_law_other"]
abbrev ps_law_runs : List Str := ["_law_states", "_law_codes", "_law_machine"]
theorem sc_law_runs : FnScope nm_law_runs ps_law_runs (defScope s_law_runs) := ⟨rfl, rfl, rfl, by decide +kernel, rfl, by decide +kernel, by decide +kernel⟩
abbrev s_law_can : Stmt := top 57
abbrev nm_law_can : List Str := ["_law_wires_here", "_law_codes", "_law_here", "_law_states", "_law_letters", "_law_found", "_law_machine", "_law_wire", "_law_row_here"]
abbrev ps_law_can : List Str := ["_law_wires_here", "_law_codes", "_law_here"]
theorem sc_law_can : FnScope nm_law_can ps_law_can (defScope s_law_can) := ⟨rfl, rfl, rfl, by decide +kernel, rfl, by decide +kernel, by decide +kernel⟩
abbrev s_law_ended : Stmt := top 65
abbrev nm_law_ended : List Str := ["_law_here", "_law_codes", "_law_state", "_law_code"]
abbrev ps_law_ended : List Str := ["_law_here", "_law_codes"]
theorem sc_law_ended : FnScope nm_law_ended ps_law_ended (defScope s_law_ended) := ⟨rfl, rfl, rfl, by decide +kernel, rfl, by decide +kernel, by decide +kernel⟩
section
variable {α β : Type} {K : PySem.W.Frag} {Ps : Tys} {ta tb te : TE}
/-- walked: tuples of data -/
theorem i_tupM {f : α → T} {as : List α} (h : EvX ta Ps (Dat (.tup (as.map f)))) : EvI (iTup K ta) Ps (as.map fun a => Dat (f a)) := by
  have := i_tup (K := K) (ev_untup h)
  rw [List.map_map] at this
  exact this
theorem zip_mapM {f : α → T} {g : β → T} : ∀ (as : List α) (bs : List β), (List.zip ((as.map f).map Dat) ((bs.map g).map Dat)).map (fun p => TupP [p.1, p.2]) = (as.zip bs).map fun q => TupP [Dat (f q.1), Dat (g q.2)]
  | [], _ => rfl
  | _ :: _, [] => rfl
  | a :: as, b :: bs => by
    show TupP [Dat (f a), Dat (g b)] :: (List.zip ((as.map f).map Dat) ((bs.map g).map Dat)).map (fun p => TupP [p.1, p.2]) = _
    rw [zip_mapM as bs]
    rfl
theorem i_zipM {f : α → T} {g : β → T} {as : List α} {bs : List β} (h1 : EvX ta Ps (Dat (.tup (as.map f)))) (h2 : EvX tb Ps (Dat (.tup (bs.map g)))) : EvI (RZ.iZipA K (tCons ta (tCons tb tNil))) Ps ((as.zip bs).map fun q => TupP [Dat (f q.1), Dat (g q.2)]) := by
  rw [← zip_mapM]
  exact i_zipT (ev_untup h1) (ev_untup h2)
theorem e_tupM {f : α → T} {as : List α} (h : EvX te Ps (LstP (as.map fun a => Dat (f a)))) : EvX (tCB (rTupOf K) (tCons te tNil)) Ps (Dat (.tup (as.map f))) := by
  refine e_tupOfD ?_
  rw [List.map_map]
  exact h
end
section
variable {P : Program} {w : World} {K : PySem.W.Frag} {mg : Str → Option Value} {base : Heap} {f f1 f2 f3 f4 C : Addr} {fd fd1 fd2 fd3 fd4 : FuncData}
theorem sz1 {n : Nat} (h : n ≤ 100000) : n < sizeLine := by rw [sizeLine_eq]; omega
abbrev sp_law_sent : Sp := SpG (fun i : List (Nat × Nat) × List (List Put) × Nat × Put => i.1.length ≤ 1000 ∧ ∀ l ∈ i.2.1, l.length ≤ 50000) fun i => ([wsP i.1, Dat (enc i.2.1), Dat (.int (i.2.2.1 : Int)), Dat (enc i.2.2.2)], Dat (enc (sent i.1 i.2.1 i.2.2.1 i.2.2.2)))
theorem ok__law_sent (F : Fun K "_law_sent" "_law_sent" s_law_sent f fd) (B : Bi mg) : FnOk P w K mg base CX0 3 f fd ps_law_sent sp_law_sent := by
  refine okG F sc_law_sent (fun _ => rfl) fun cdv A outer s H E hr => ⟨_, (pss_one (ps_ret (pe_callTy (kC (r := rTupOf) (K := K) cTup rfl) (by rfl) B.tuple_ b_tuple (pa_cons (pe_lc (own := [("_law_wire", 4), ("_law_row_here", 5)]) rfl sc_law_sent.nd (kPI (r := RZ.iZipA) (K := K) (RZ.pi_zipA rfl B.zip_ (pa_cons (pv 0) (pa_cons (pv 1) pa_nil))) rfl) (blkOk_by (N := nm_law_sent) (sc := defScope s_law_sent) (by decide +kernel)) (fun _ _ _ _ _ => (kPG (K := K) (pg_tup (n := 2) rfl (pgs_cons (pg_name (i := 4) sc_law_sent.nd rfl (Or.inl rfl)) (pgs_cons (pg_name (i := 5) sc_law_sent.nd rfl (Or.inl rfl)) pgs_nil))) rfl)) (fun _ _ _ _ _ => pts_nil) (fun _ _ _ _ _ => (pe_ifExp (pt_cmpR oEqS (pe_ix (kIx (r := rIxT) (K := K) ix_tup rfl) (pv 4) pe_int (fun _ _ => rfl)) (pv 2) (nomark _)) (pe_op (kOp (r := rCatA) (K := K) op_catA rfl) (pv 5) (pe_tup (pa_cons (pv 3) pa_nil))) (pv 5)))) pa_nil)))), fun i F vs Q hp R q => ?_⟩
  obtain ⟨ws, ls, m, p⟩ := i
  obtain ⟨h1, h2⟩ : ws.length ≤ 1000 ∧ ∀ l ∈ ls, l.length ≤ 50000 := hp
  refine s_ret R (e_tupM (f := enc) (as := sent ws ls m p) ?_) q
  unfold sent
  rw [List.map_map]
  refine x_lcM (K := K) (is := [4, 5]) (ts := fun q => [Dat (enc q.1), Dat (enc q.2)]) (i_zipZ (f := enc) (g := enc) (as := ws) (bs := ls) (x_var rfl) (x_var rfl)) (fun q _ => .tup 2 [4, 5] _ rfl rfl) (by decide) (sz1 (by rw [List.length_zip]; omega)) fun q hq => ?_
  refine x_ifE (x_test (e_eqI (i := (q.1.1 : Int)) (x_ixC (n := 0) (ts := [enc q.1.1, enc q.1.2]) (x_var rfl) rfl) (x_var rfl))) (fun h => ?_) fun h => ?_
  · rw [nat_eq, decide_eq_true_eq] at h
    show EvX _ _ (Dat (enc (if q.1.1 = m then q.2 ++ [p] else q.2)))
    rw [if_pos h]
    exact x_snoc (as := q.2) (x_var rfl) (x_var rfl) (Nat.le_trans (h2 _ (List.of_mem_zip hq).2) (by decide))
  · rw [nat_eq, decide_eq_false_iff_not] at h
    show EvX _ _ (Dat (enc (if q.1.1 = m then q.2 ++ [p] else q.2)))
    rw [if_neg h]
    exact x_var rfl
/-- the law's check of a machine's state: what it runs on -/
structure HOk1 (cs : List (List Row)) (ss : List MS) (i : Nat) : Prop where
  hi : i < cs.length
  len : ss.length = cs.length
  row : (ss.getD i ms0).row ≤ (cs.getD i []).length
  few : cs.length ≤ 1000
  dia : (ss.getD i ms0).diary.length ≤ 50000
abbrev gOf (cs : List (List Row)) : PG := ⟨[], [], cs⟩
theorem e_code {K : PySem.W.Frag} {Ps : Tys} {ta tb : TE} {cs : List (List Row)} {i : Nat} (ha : EvX ta Ps (Dat (csT cs))) (hb : EvX tb Ps (Dat (.int (i : Int)))) (hi : i < cs.length) : EvX (tOp (rIxT K) ta tb) Ps (Dat (codeT (cs.getD i []))) :=
  x_ixV (ts := cs.map codeT) ha hb (by rw [List.getElem?_map, List.getD_eq_getElem?_getD, List.getElem?_eq_getElem hi]; rfl)
abbrev sp_law_runs : Sp := SpG (fun i : List MS × List (List Row) × Nat => HOk1 i.2.1 i.1 i.2.2) fun i => ([Dat (enc i.1), Dat (csT i.2.1), Dat (.int (i.2.2 : Int))], Dat (.bl (runs (gOf i.2.1) i.1 i.2.2)))
theorem ok__law_runs (F : Fun K "_law_runs" "_law_runs" s_law_runs f fd) (B : Bi mg) : FnOk P w K mg base CX0 3 f fd ps_law_runs sp_law_runs := by
  refine okG F sc_law_runs (fun _ => rfl) fun cdv A outer s H E hr => ⟨_, (pss_cons (ps_set (i := 3) sc_law_runs.nd rfl (Or.inl rfl) (pe_ix (kIx (r := rIxT) (K := K) ix_tup rfl) (pv 0) (pv 2) (fun _ _ => rfl)))
  (pss_cons (ps_if (PW.pt (pw_or (pt_val (pe_ix (kIx (r := rIxT) (K := K) ix_tup rfl) (pv 3) pe_int (fun _ _ => rfl))) (pw_or1 (pt_cmpR oEqS (pe_ix (kIx (r := rIxT) (K := K) ix_tup rfl) (pv 3) pe_int (fun _ _ => rfl)) (pe_callB (kC (r := rLenG) (K := K) cLen rfl) (by rfl) B.len_ b_len (pa_cons (pe_ix (kIx (r := rIxT) (K := K) ix_tup rfl) (pv 1) (pv 2) (fun _ _ => rfl)) pa_nil)) (nomark _)))))
  (pss_one (ps_ret pe_bl))
  pss_nil)
  (pss_cons (ps_if (pt_cmpR (kOp (r := rNeD) (K := K) (op_neD (ru64 (hr.mono (by decide)))) rfl) (pe_ix (kIx (r := rIxT) (K := K) ix_tup rfl) (pe_ix (kIx (r := rIxT) (K := K) ix_tup rfl) (pv 1) (pv 2) (fun _ _ => rfl)) (pe_ix (kIx (r := rIxT) (K := K) ix_tup rfl) (pv 3) pe_int (fun _ _ => rfl)) (fun _ _ => rfl)) (pe_tup (pa_cons pe_str pa_nil)) (nomark _))
  (pss_one (ps_ret pe_bl))
  pss_nil)
  (pss_one (ps_ret (pe_callB (kC (r := rAll) (K := K) (cAll rfl) rfl) (by rfl) B.all_ b_all (pa_cons (pe_lc (own := [("_law_put", 4)]) rfl sc_law_runs.nd (kPI (r := iTup) (K := K) (pi_tup (pe_ix (kIx (r := rIxT) (K := K) ix_tup rfl) (pv 3) pe_int (fun _ _ => rfl))) rfl) (blkOk_by (N := nm_law_runs) (sc := defScope s_law_runs) (by decide +kernel)) (fun _ _ _ _ _ => (pg_name (i := 4) sc_law_runs.nd rfl (Or.inr rfl))) (fun _ _ _ _ _ => pts_nil) (fun _ _ _ _ _ => (pe_callB (kC (r := rAll) (K := K) (cAll rfl) rfl) (by rfl) B.all_ b_all (pa_cons (pe_lc (own := [("_law_other", 5)]) rfl sc_law_runs.nd (kPI (r := iTup) (K := K) (pi_tup (pv 0)) rfl) (blkOk_in (N := nm_law_runs) (s0 := defScope s_law_runs) rfl (by decide +kernel)) (fun _ _ _ _ _ => (pg_name (i := 5) sc_law_runs.nd rfl (Or.inl rfl))) (fun _ _ _ _ _ => pts_nil) (fun _ _ _ _ _ => (pe_cmpR (kOp (r := rInT) (K := K) (oInT (ru65 (hr.mono (by decide)))) rfl) (pv 4) (pe_ix (kIx (r := rIxT) (K := K) ix_tup rfl) (pv 5) pe_int (fun _ _ => rfl)) rfl))) pa_nil)))) pa_nil))))))), fun i F vs Q hp R q => ?_⟩
  obtain ⟨ss, cs, i⟩ := i
  replace hp : HOk1 cs ss i := hp
  obtain ⟨hi, hl, hrow, hfew, hdia⟩ := hp
  replace q : ∀ v F' H', Gr F H F' H' → (Dat (.bl (runs (gOf cs) ss i))).p F' v → Q v H' := q
  let m := ss.getD i ms0
  have hm : (ss.map enc)[i]? = some (enc m) := enc_at (by rw [hl]; exact hi)
  refine s_asg R (x_ixV (n := i) (x_var (P := Dat (.tup (ss.map enc))) rfl) (x_var rfl) hm) fun F H σ R => ?_
  unfold runs at q
  change ∀ v F' H', _ → (Dat (.bl (if (m.fault || decide (m.row = (cs.getD i []).length)) = true then false else if rowAt (cs.getD i []) m.row = .rest then everywhere ss m else true))).p F' v → Q v H' at q
  have ht := x_or (b := m.fault) (c := decide ((m.row : Int) = ((cs.getD i []).length : Int))) (Ps := (stT nm_law_runs [Dat (enc ss), Dat (csT cs), Dat (.int (i : Int))]).set 3 (some (Dat (enc m)))) (x_test (m_at (K := K) (n := 6) (m := m) (x_var (n := 3) rfl) rfl)) fun _ => x_test (e_eqI (m_at (K := K) (n := 0) (m := m) (x_var (n := 3) rfl) rfl) (e_codeLen (K := K) (e_code (K := K) (cs := cs) (i := i) (x_var (n := 1) rfl) (x_var (n := 2) rfl) hi)))
  rw [nat_eq] at ht
  cases hb : (m.fault || decide (m.row = (cs.getD i []).length)) with
  | true =>
    rw [if_pos hb] at q
    exact s_ifT R ht hb fun F H R => s_ret R x_bl q
  | false =>
    rw [if_neg (by rw [hb]; decide)] at q
    refine s_ifF R ht hb fun F H R => ?_
    have hlt : m.row < (cs.getD i []).length := by
      rw [Bool.or_eq_false_iff, decide_eq_false_iff_not] at hb
      have : m.row ≤ (cs.getD i []).length := hrow
      omega
    have hne := x_test (e_noRest (K := K) (e_rowAt (K := K) (e_code (K := K) (cs := cs) (i := i) (Ps := (stT nm_law_runs [Dat (enc ss), Dat (csT cs), Dat (.int (i : Int))]).set 3 (some (Dat (enc m)))) (x_var (n := 1) rfl) (x_var (n := 2) rfl) hi) (m_at (K := K) (n := 0) (m := m) (x_var (n := 3) rfl) rfl) hlt))
    by_cases hres : rowAt (cs.getD i []) m.row = .rest
    · rw [if_pos hres] at q
      refine s_ifF R hne (by rw [decide_eq_true hres]; rfl) fun F H R => ?_
      have hev : everywhere ss m = (m.diary.map fun p => ((ss.map fun o => decide (p ∈ o.diary)).all id)).all id := by
        unfold everywhere
        rw [List.all_map]
        congr 1
        funext p
        show _ = id ((ss.map _).all id)
        rw [List.all_map]
        rfl
      rw [hev] at q
      refine s_next ?_
      refine s_ret (P := Dat (.bl ((m.diary.map fun p => (ss.map fun o => decide (p ∈ o.diary)).all id).all id))) R ?_ ?k
      case k => exact q
      refine e_all ?_
      rw [List.map_map]
      refine x_lcM (K := K) (is := [4]) (ts := fun p => [Dat (enc p)]) (i_tupM (f := enc) (as := m.diary) (m_at (n := 5) (x_var rfl) rfl)) (fun p _ => .one 4 _) (by decide) (sz1 (Nat.le_trans hdia (by decide))) fun p _ => ?_
      refine e_all (bs := ss.map fun o => decide (p ∈ o.diary)) ?_
      rw [List.map_map]
      refine x_lcM (K := K) (is := [5]) (ts := fun o => [Dat (enc o)]) (i_tupM (f := enc) (as := ss) (x_var rfl)) (fun p _ => .one 5 _) (by decide) (sz1 (by omega)) fun o _ => ?_
      exact e_inT (a := p) (as := o.diary) (x_var rfl) (m_at (n := 5) (x_var rfl) rfl)
    · rw [if_neg hres] at q
      exact s_ifT R hne (by rw [decide_eq_false hres]; rfl) fun F H R => s_ret R x_bl q
/-- what the law's list of steps is read from -/
structure HOk2 (ws : List (Nat × Nat)) (cs : List (List Row)) (sd : SD) : Prop where
  st : ∀ i, i < cs.length → HOk1 cs sd.ss i
  len : sd.ss.length = cs.length
  few : cs.length ≤ 100
  wfew : ws.length ≤ 1000
theorem x_filterMap {α : Type} (p : α → Bool) (g : α → Step) (as : List α) : (as.filter p).map (fun a => Dat (enc (g a))) = ((as.filter p).map g).map fun s => Dat (enc s) := by rw [List.map_map]; rfl
abbrev sp_law_can : Sp := SpG (fun i : List (Nat × Nat) × List (List Row) × SD => HOk2 i.1 i.2.1 i.2.2) fun i => ([wsP i.1, Dat (csT i.2.1), Dat (enc i.2.2)], LstP ((can ⟨i.1, [], i.2.1⟩ i.2.2).map fun s => Dat (enc s)))
theorem e_csLen {K : PySem.W.Frag} {Ps : Tys} {ta : TE} {cs : List (List Row)} (ha : EvX ta Ps (Dat (csT cs))) : EvX (tCB (rLenG K) (tCons ta tNil)) Ps (Dat (.int (cs.length : Int))) := by
  have := e_lenD (K := K) (ts := cs.map codeT) ha
  rw [List.length_map] at this
  exact this
theorem ok__law_can (F : Fun K "_law_can" "_law_can" s_law_can f fd) (B : Bi mg) (G_law_runs : GF P w K mg base "_law_runs" ps_law_runs 3 sp_law_runs f1 fd1) : FnOk P w K mg base CX0 4 f fd ps_law_can sp_law_can := by
  refine okG F sc_law_can (fun _ => rfl) fun cdv A outer s H E hr => ⟨_, (pss_cons (ps_asg (pv 2) (kPG (K := K) (pg_tup (n := 2) rfl (pgs_cons (pg_name (i := 3) sc_law_can.nd rfl (Or.inr rfl)) (pgs_cons (pg_name (i := 4) sc_law_can.nd rfl (Or.inl rfl)) pgs_nil))) rfl))
  (pss_cons (ps_setLc (i := 5) (own := [("_law_machine", 6)]) rfl sc_law_can.nd rfl rfl (sw_true rfl rfl rfl (by decide +kernel)) (pi_range1 rfl B.range_ (pa_cons (pe_callB (kC (r := rLenG) (K := K) cLen rfl) (by rfl) B.len_ b_len (pa_cons (pv 1) pa_nil)) pa_nil)) (blkOk_by (N := nm_law_can) (sc := defScope s_law_can) (by decide +kernel)) (fun _ _ _ _ _ => (pg_name (i := 6) sc_law_can.nd rfl (Or.inl rfl))) (fun _ _ _ _ _ => (pts_one (pt_val (pe_f G_law_runs (hr.mono (by decide)) rfl (pa_cons (pv 3) (pa_cons (pv 1) (pa_cons (pv 6) pa_nil))))))) (fun _ _ _ _ _ => (pe_tup (pa_cons pe_str (pa_cons (pv 6) pa_nil)))))
  (pss_one (ps_ret (pe_op op_cat (pv 5) (pe_lc (own := [("_law_wire", 7), ("_law_row_here", 8)]) rfl sc_law_can.nd (kPI (r := RZ.iZipA) (K := K) (RZ.pi_zipA rfl B.zip_ (pa_cons (pv 0) (pa_cons (pv 4) pa_nil))) rfl) (blkOk_by (N := nm_law_can) (sc := defScope s_law_can) (by decide +kernel)) (fun _ _ _ _ _ => (kPG (K := K) (pg_tup (n := 2) rfl (pgs_cons (pg_name (i := 7) sc_law_can.nd rfl (Or.inl rfl)) (pgs_cons (pg_name (i := 8) sc_law_can.nd rfl (Or.inl rfl)) pgs_nil))) rfl)) (fun _ _ _ _ _ => (pts_one (pt_cmpR oGtI (pe_callB (kC (r := rLenG) (K := K) cLen rfl) (by rfl) B.len_ b_len (pa_cons (pv 8) pa_nil)) pe_int (nomark _)))) (fun _ _ _ _ _ => (pe_tup (pa_cons pe_str (pa_cons (pe_ix (kIx (r := rIxT) (K := K) ix_tup rfl) (pv 7) pe_int (fun _ _ => rfl)) (pa_cons (pe_ix (kIx (r := rIxT) (K := K) ix_tup rfl) (pv 7) pe_int (fun _ _ => rfl)) pa_nil))))))))))), fun i F vs Q hp R q => ?_⟩
  obtain ⟨ws, cs, sd⟩ := i
  obtain ⟨h1, h2, h3, h4⟩ : HOk2 ws cs sd := hp
  replace q : ∀ v F' H', Gr F H F' H' → (LstP ((can ⟨ws, [], cs⟩ sd).map fun s => Dat (enc s))).p F' v → Q v H' := q
  refine s_unpD (is := [3, 4]) (ts := [enc sd.ss, enc sd.ls]) R (x_var rfl) rfl rfl fun F H σ R => ?_
  have hr1 : ∀ i, runs (gOf cs) sd.ss i = runs ⟨ws, [], cs⟩ sd.ss i := fun i => rfl
  refine s_nx (s_asgS R (P := LstP ((((List.range cs.length).filter (runs (gOf cs) sd.ss)).map Step.act).map fun s => Dat (enc s))) ?_ fun F H σ R => ?_)
  · rw [← x_filterMap]
    refine x_lc (K := K) (is := [6]) (ts := fun (k : Nat) => [Dat (.int (k : Int))]) (b := runs (gOf cs) sd.ss) (i_range (n := cs.length) (a_cons (e_csLen (x_var rfl)) a_nil) (by omega)) (fun k _ => .one 6 _) (by decide) (sz1 (by rw [List.length_range]; omega)) (fun k hk => ?_) fun k hk _ => ?_
    · exact x_test (x_call (P := Dat (.bl (runs (gOf cs) sd.ss k))) (sd.ss, cs, k) (h1 k (List.mem_range.mp hk)) (a_cons (x_var rfl) (a_cons (x_var rfl) (a_cons (x_var rfl) a_nil))) rfl)
    · exact x_tupD (ts := [.str "do", .int (k : Int)]) (a_cons x_str (a_cons (x_var rfl) a_nil)) (big (by show 2 ≤ _; decide))
  have hcan : ((can ⟨ws, [], cs⟩ sd).map fun s => Dat (enc s)) = ((((List.range cs.length).filter (runs (gOf cs) sd.ss)).map Step.act).map fun s => Dat (enc s)) ++ ((((ws.zip sd.ls).filter fun q => decide (0 < q.2.length)).map fun q => Step.come q.1.1 q.1.2).map fun s => Dat (enc s)) := by
    rw [← List.map_append]
    rfl
  rw [hcan] at q
  refine s_ret R ?_ q
  refine x_catL (x_var rfl) ?_ ?_
  · rw [← x_filterMap (fun q : (Nat × Nat) × List Put => decide (0 < q.2.length)) fun q => Step.come q.1.1 q.1.2]
    refine x_lc (K := K) (is := [7, 8]) (α := (Nat × Nat) × List Put) (ts := fun q => [Dat (enc q.1), Dat (enc q.2)]) (b := fun q => decide (0 < q.2.length)) (i_zipZ (f := enc) (g := enc) (as := ws) (bs := sd.ls) (x_var rfl) (x_var rfl)) (fun q _ => .tup 2 [7, 8] _ rfl rfl) (by decide) (sz1 (by rw [List.length_zip]; omega)) (fun q _ => ?_) fun q _ _ => ?_
    · exact (x_test (e_gt (e_lenE (as := q.2) (x_var rfl)) x_int)).cast (decide_eq_decide.mpr (by omega))
    · exact x_tupD (ts := [.str "come", .int (q.1.1 : Int), .int (q.1.2 : Int)]) (a_cons x_str (a_cons (x_ixC (n := 0) (ts := [enc q.1.1, enc q.1.2]) (x_var rfl) rfl) (a_cons (x_ixC (n := 1) (ts := [enc q.1.1, enc q.1.2]) (x_var rfl) rfl) a_nil))) (big (by show 3 ≤ _; decide))
  · rw [List.length_map, List.length_map, List.length_map, List.length_map]
    have l1 := List.length_filter_le (runs (gOf cs) sd.ss) (List.range cs.length)
    have l2 := List.length_filter_le (fun q : (Nat × Nat) × List Put => decide (0 < q.2.length)) (ws.zip sd.ls)
    rw [List.length_range] at l1
    rw [List.length_zip] at l2
    exact big (by omega)
abbrev sp_law_ended : Sp := SpG (fun i : SD × List (List Row) => i.2.length ≤ 1000) fun i => ([Dat (enc i.1), Dat (csT i.2)], Dat (.bl (ended (gOf i.2) i.1)))
theorem ok__law_ended (F : Fun K "_law_ended" "_law_ended" s_law_ended f fd) (B : Bi mg) : FnOk P w K mg base CX0 3 f fd ps_law_ended sp_law_ended := by
  refine okG F sc_law_ended (fun _ => rfl) fun cdv A outer s H E hr => ⟨_, (pss_one (ps_ret (pe_callB (kC (r := rAll) (K := K) (cAll rfl) rfl) (by rfl) B.all_ b_all (pa_cons (pe_lc (own := [("_law_state", 2), ("_law_code", 3)]) rfl sc_law_ended.nd (kPI (r := RZ.iZipA) (K := K) (RZ.pi_zipA rfl B.zip_ (pa_cons (pe_ix (kIx (r := rIxT) (K := K) ix_tup rfl) (pv 0) pe_int (fun _ _ => rfl)) (pa_cons (pv 1) pa_nil))) rfl) (blkOk_by (N := nm_law_ended) (sc := defScope s_law_ended) (by decide +kernel)) (fun _ _ _ _ _ => (kPG (K := K) (pg_tup (n := 2) rfl (pgs_cons (pg_name (i := 2) sc_law_ended.nd rfl (Or.inl rfl)) (pgs_cons (pg_name (i := 3) sc_law_ended.nd rfl (Or.inl rfl)) pgs_nil))) rfl)) (fun _ _ _ _ _ => pts_nil) (fun _ _ _ _ _ => (pe_and (pe_not (pe_ix (kIx (r := rIxT) (K := K) ix_tup rfl) (pv 2) pe_int (fun _ _ => rfl))) (pe_one (pe_cmpR oEqS (pe_ix (kIx (r := rIxT) (K := K) ix_tup rfl) (pv 2) pe_int (fun _ _ => rfl)) (pe_callB (kC (r := rLenG) (K := K) cLen rfl) (by rfl) B.len_ b_len (pa_cons (pv 3) pa_nil)) (nomark _)))))) pa_nil)))), fun i F vs Q hp R q => ?_⟩
  obtain ⟨sd, cs⟩ := i
  replace hp : cs.length ≤ 1000 := hp
  have he : ended (gOf cs) sd = ((sd.ss.zip cs).map fun q => endedM q.2 q.1).all id := by
    rw [List.all_map]
    rfl
  replace q : ∀ v F' H', Gr F H F' H' → (Dat (.bl (ended (gOf cs) sd))).p F' v → Q v H' := q
  rw [he] at q
  refine s_ret R (e_all ?_) q
  rw [List.map_map]
  refine x_lcM (K := K) (is := [2, 3]) (ts := fun q => [Dat (enc q.1), Dat (codeT q.2)]) (i_zipM (f := enc) (g := codeT) (as := sd.ss) (bs := cs) (x_ixC (n := 0) (ts := [enc sd.ss, enc sd.ls]) (x_var rfl) rfl) (x_var rfl)) (fun q _ => .tup 2 [2, 3] _ rfl rfl) (by decide) (sz1 (by rw [List.length_zip]; omega)) fun q _ => ?_
  refine EvX.cast (x_andV (x_notV (m_at (n := 6) (m := q.1) (x_var rfl) rfl)) fun _ => e_eqI (m_at (n := 0) (m := q.1) (x_var rfl) rfl) (e_codeLen (x_var rfl))) ?_
  rw [nat_eq]
  rfl
end
end G
namespace G
open PySem PySem.Spec PyProof.Rows L2
open Enc (enc)
section
variable {P : Program} {w : World} {K : PySem.W.Frag} {mg : Str → Option Value} {base : Heap} {f f1 f2 f3 f4 C : Addr} {fd fd1 fd2 fd3 fd4 : FuncData}
theorem tup7 {Ps : Tys} {t1 t2 t3 t4 t5 t6 t7 : TE} {m : MS} (h1 : EvX t1 Ps (Dat (enc m.row))) (h2 : EvX t2 Ps (Dat (enc m.regs))) (h3 : EvX t3 Ps (Dat (enc m.kept))) (h4 : EvX t4 Ps (Dat (enc m.told))) (h5 : EvX t5 Ps (Dat (enc m.cells))) (h6 : EvX t6 Ps (Dat (enc m.diary))) (h7 : EvX t7 Ps (Dat (enc m.fault))) :
    EvX (tTup (tCons t1 (tCons t2 (tCons t3 (tCons t4 (tCons t5 (tCons t6 (tCons t7 tNil)))))))) Ps (Dat (enc m)) :=
  x_tupD (ts := [enc m.row, enc m.regs, enc m.kept, enc m.told, enc m.cells, enc m.diary, enc m.fault]) (a_cons h1 (a_cons h2 (a_cons h3 (a_cons h4 (a_cons h5 (a_cons h6 (a_cons h7 a_nil))))))) (big (by show 7 ≤ _; decide))
theorem tup2 {Ps : Tys} {t1 t2 : TE} {a b : T} (h1 : EvX t1 Ps (Dat a)) (h2 : EvX t2 Ps (Dat b)) : EvX (tTup (tCons t1 (tCons t2 tNil))) Ps (Dat (.tup [a, b])) := x_tupD (ts := [a, b]) (a_cons h1 (a_cons h2 a_nil)) (big (by show 2 ≤ _; decide))
abbrev aftT (m : MS) (r : Row) : T := .tup [enc (aft m r).1, putO (aft m r).2]
abbrev sp_law_after : Sp := SpG (fun i : MS × List Row => MOk i.1 ∧ i.1.row < i.2.length ∧ RIx i.1 (rowAt i.2 i.1.row) ∧ i.1.fault = false) fun i => ([Dat (enc i.1), Dat (codeT i.2)], Dat (aftT i.1 (rowAt i.2 i.1.row)))
/-- the slots behind the first statements -/
abbrev laT (m : MS) (code : List Row) (r : Row) : Tys := [some (Dat (enc m)), some (Dat (codeT code)), some (Dat (enc m.row)), some (Dat (enc m.regs)), some (Dat (enc m.kept)), some (Dat (enc m.told)), some (Dat (enc m.cells)), some (Dat (enc m.diary)), some (Dat (enc m.fault)), some (Dat (rowT r)), some (Dat (enc (bad m))), none, none]
theorem row_wd {Ps : Tys} {r : Row} {j : Nat} (h : Ps[j]? = some (some (Dat (rowT r)))) : EvX (tOp (rIxT K) (tVar j) (tC (.int 0))) Ps (Dat (.str (wordOf r))) :=
  x_ixC (n := 0) (ts := .str (wordOf r) :: argsOf r) (x_var (by rw [← rowT_eq]; exact h)) rfl
theorem row_arg {Ps : Tys} {r : Row} {j n : Nat} {t : T} (h : Ps[j]? = some (some (Dat (rowT r)))) (ht : (argsOf r)[n]? = some t) : EvX (tOp (rIxT K) (tVar j) (tC (.int ((n + 1 : Nat) : Int)))) Ps (Dat t) :=
  x_ixC (n := n + 1) (ts := .str (wordOf r) :: argsOf r) (x_var (by rw [← rowT_eq]; exact h)) (by simpa using ht)
theorem ok__law_after (F : Fun K "_law_after" "_law_after" s_law_after f fd) (B : Bi mg) (G_law_sum : GF P w K mg base "_law_sum" ps_law_sum 3 sp_law_sum f1 fd1) (G_law_set : GF P w K mg base "_law_set" ps_law_set 3 sp_set f2 fd2) : FnOk P w K mg base CX0 4 f fd ps_law_after sp_law_after := by
  refine okG F sc_law_after (fun _ => rfl) fun cdv A outer s H E hr => ⟨_, (pss_cons (ps_asg (pv 0) (kPG (K := K) (pg_tup (n := 7) rfl (pgs_cons (pg_name (i := 2) sc_law_after.nd rfl (Or.inl rfl)) (pgs_cons (pg_name (i := 3) sc_law_after.nd rfl (Or.inl rfl)) (pgs_cons (pg_name (i := 4) sc_law_after.nd rfl (Or.inl rfl)) (pgs_cons (pg_name (i := 5) sc_law_after.nd rfl (Or.inl rfl)) (pgs_cons (pg_name (i := 6) sc_law_after.nd rfl (Or.inl rfl)) (pgs_cons (pg_name (i := 7) sc_law_after.nd rfl (Or.inl rfl)) (pgs_cons (pg_name (i := 8) sc_law_after.nd rfl (Or.inl rfl)) pgs_nil)))))))) rfl))
  (pss_cons (ps_set (i := 9) sc_law_after.nd rfl (Or.inl rfl) (pe_ix (kIx (r := rIxT) (K := K) ix_tup rfl) (pv 1) (pv 2) (fun _ _ => rfl)))
  (pss_cons (ps_set (i := 10) sc_law_after.nd rfl (Or.inl rfl) (pe_tup (pa_cons (pv 2) (pa_cons (pv 3) (pa_cons (pv 4) (pa_cons (pv 5) (pa_cons (pv 6) (pa_cons (pv 7) (pa_cons pe_bl pa_nil)))))))))
  (pss_cons (ps_if (pt_cmpR (kOp (r := fun K => rIn K false) (K := K) op_in_seq rfl) (pe_ix (kIx (r := rIxT) (K := K) ix_tup rfl) (pv 9) pe_int (fun _ _ => rfl)) (pe_tup (pa_cons pe_str (pa_cons pe_str (pa_cons pe_str (pa_cons pe_str (pa_cons pe_str pa_nil)))))) rfl)
  (pss_cons (ps_set (i := 11) sc_law_after.nd rfl (Or.inl rfl) (pe_f G_law_sum (hr.mono (by decide)) rfl (pa_cons (pv 0) (pa_cons (pv 9) pa_nil))))
  (pss_cons (ps_set (i := 3) sc_law_after.nd rfl (Or.inl rfl) (pe_f G_law_set (hr.mono (by decide)) rfl (pa_cons (pv 3) (pa_cons (pe_ix (kIx (r := rIxT) (K := K) ix_tup rfl) (pv 9) pe_int (fun _ _ => rfl)) (pa_cons (pv 11) pa_nil)))))
  (pss_one (ps_ret (pe_tup (pa_cons (pe_ifExp (pt_cmpR oLeI (pe_callB cAbs (by rfl) B.abs_ b_abs (pa_cons (pv 11) pa_nil)) (pe_op oPowI pe_int pe_int) (nomark _)) (pe_tup (pa_cons (pe_op oAddI (pv 2) pe_int) (pa_cons (pv 3) (pa_cons (pv 4) (pa_cons (pv 5) (pa_cons (pv 6) (pa_cons (pv 7) (pa_cons pe_bl pa_nil)))))))) (pv 10)) (pa_cons pe_non pa_nil)))))))
  pss_nil)
  (pss_cons (ps_if (pt_cmpR oEqS (pe_ix (kIx (r := rIxT) (K := K) ix_tup rfl) (pv 9) pe_int (fun _ _ => rfl)) pe_str (nomark _))
  (pss_one (ps_ret (pe_tup (pa_cons (pe_tup (pa_cons (pe_op oAddI (pv 2) pe_int) (pa_cons (pv 3) (pa_cons (pv 4) (pa_cons (pv 5) (pa_cons (pv 6) (pa_cons (pv 7) (pa_cons pe_bl pa_nil)))))))) (pa_cons (pe_tup (pa_cons (pe_ix (kIx (r := rIxT) (K := K) ix_tup rfl) (pv 9) pe_int (fun _ _ => rfl)) (pa_cons (pe_ix (kIx (r := rIxT) (K := K) ix_tup rfl) (pv 3) (pe_ix (kIx (r := rIxT) (K := K) ix_tup rfl) (pv 9) pe_int (fun _ _ => rfl)) (fun _ _ => rfl)) pa_nil))) pa_nil)))))
  pss_nil)
  (pss_cons (ps_if (pt_cmpR oEqS (pe_ix (kIx (r := rIxT) (K := K) ix_tup rfl) (pv 9) pe_int (fun _ _ => rfl)) pe_str (nomark _))
  (pss_one (ps_ret (pe_tup (pa_cons (pe_tup (pa_cons (pe_op oAddI (pv 2) pe_int) (pa_cons (pv 3) (pa_cons (pv 4) (pa_cons (pe_op (kOp (r := rCatA) (K := K) op_catA rfl) (pv 5) (pe_tup (pa_cons (pe_ix (kIx (r := rIxT) (K := K) ix_tup rfl) (pv 3) (pe_ix (kIx (r := rIxT) (K := K) ix_tup rfl) (pv 9) pe_int (fun _ _ => rfl)) (fun _ _ => rfl)) pa_nil))) (pa_cons (pv 6) (pa_cons (pv 7) (pa_cons pe_bl pa_nil)))))))) (pa_cons pe_non pa_nil)))))
  pss_nil)
  (pss_cons (ps_if (pt_cmpR oEqS (pe_ix (kIx (r := rIxT) (K := K) ix_tup rfl) (pv 9) pe_int (fun _ _ => rfl)) pe_str (nomark _))
  (pss_one (ps_ret (pe_tup (pa_cons (pe_ifExp (pt_cmpR oGtI (pe_callB (kC (r := rLenG) (K := K) cLen rfl) (by rfl) B.len_ b_len (pa_cons (pv 4) pa_nil)) pe_int (nomark _)) (pe_tup (pa_cons (pe_ix (kIx (r := rIxT) (K := K) ix_tup rfl) (pv 4) (pe_un uNeg pe_int) (fun _ _ => rfl)) (pa_cons (pv 3) (pa_cons (pe_slice (kSl (r := rSlA) (K := K) sl_tupA rfl) (pv 4) po_none (po_some (pe_un uNeg pe_int))) (pa_cons (pv 5) (pa_cons (pv 6) (pa_cons (pv 7) (pa_cons pe_bl pa_nil)))))))) (pv 10)) (pa_cons pe_non pa_nil)))))
  pss_nil)
  (pss_cons (ps_if (pt_cmpR oEqS (pe_ix (kIx (r := rIxT) (K := K) ix_tup rfl) (pv 9) pe_int (fun _ _ => rfl)) pe_str (nomark _))
  (pss_one (ps_ret (pe_tup (pa_cons (pe_ifExp (pt_cmpR oLtI (pe_callB (kC (r := rLenG) (K := K) cLen rfl) (by rfl) B.len_ b_len (pa_cons (pv 4) pa_nil)) pe_int (nomark _)) (pe_tup (pa_cons (pe_ix (kIx (r := rIxT) (K := K) ix_tup rfl) (pv 9) pe_int (fun _ _ => rfl)) (pa_cons (pv 3) (pa_cons (pe_op (kOp (r := rCatA) (K := K) op_catA rfl) (pv 4) (pe_tup (pa_cons (pe_op oAddI (pv 2) pe_int) pa_nil))) (pa_cons (pv 5) (pa_cons (pv 6) (pa_cons (pv 7) (pa_cons pe_bl pa_nil)))))))) (pv 10)) (pa_cons pe_non pa_nil)))))
  pss_nil)
  (pss_cons (ps_set (i := 12) sc_law_after.nd rfl (Or.inl rfl) (pe_or (pe_cmpR oEqS (pe_ix (kIx (r := rIxT) (K := K) ix_tup rfl) (pv 9) pe_int (fun _ _ => rfl)) pe_str (nomark _)) (pe_one (pe_and (pe_cmpR oEqS (pe_ix (kIx (r := rIxT) (K := K) ix_tup rfl) (pv 9) pe_int (fun _ _ => rfl)) pe_str (nomark _)) (pe_one (pe_cmpR oEqS (pe_ix (kIx (r := rIxT) (K := K) ix_tup rfl) (pv 3) (pe_ix (kIx (r := rIxT) (K := K) ix_tup rfl) (pv 9) pe_int (fun _ _ => rfl)) (fun _ _ => rfl)) (pe_ix (kIx (r := rIxT) (K := K) ix_tup rfl) (pv 3) (pe_ix (kIx (r := rIxT) (K := K) ix_tup rfl) (pv 9) pe_int (fun _ _ => rfl)) (fun _ _ => rfl)) (nomark _)))))))
  (pss_cons (ps_set (i := 12) sc_law_after.nd rfl (Or.inl rfl) (pe_or (pv 12) (pe_one (pe_and (pe_cmpR oEqS (pe_ix (kIx (r := rIxT) (K := K) ix_tup rfl) (pv 9) pe_int (fun _ _ => rfl)) pe_str (nomark _)) (pe_one (pe_cmpR oLtI (pe_ix (kIx (r := rIxT) (K := K) ix_tup rfl) (pv 3) (pe_ix (kIx (r := rIxT) (K := K) ix_tup rfl) (pv 9) pe_int (fun _ _ => rfl)) (fun _ _ => rfl)) (pe_ix (kIx (r := rIxT) (K := K) ix_tup rfl) (pv 3) (pe_ix (kIx (r := rIxT) (K := K) ix_tup rfl) (pv 9) pe_int (fun _ _ => rfl)) (fun _ _ => rfl)) (nomark _)))))))
  (pss_one (ps_ret (pe_tup (pa_cons (pe_tup (pa_cons (pe_ifExp (pt_val (pv 12)) (pe_ix (kIx (r := rIxT) (K := K) ix_tup rfl) (pv 9) (pe_un uNeg pe_int) (fun _ _ => rfl)) (pe_op oAddI (pv 2) pe_int)) (pa_cons (pv 3) (pa_cons (pv 4) (pa_cons (pv 5) (pa_cons (pv 6) (pa_cons (pv 7) (pa_cons pe_bl pa_nil)))))))) (pa_cons pe_non pa_nil))))))))))))))), fun i F vs Q hp R q => ?_⟩
  obtain ⟨m, code⟩ := i
  obtain ⟨hm, hrow, hix, hfa⟩ : MOk m ∧ m.row < code.length ∧ RIx m (rowAt code m.row) ∧ m.fault = false := hp
  replace q : ∀ v F' H', Gr F H F' H' → (Dat (aftT m (rowAt code m.row))).p F' v → Q v H' := q
  have hreg : ∀ {j : Nat}, j < 8 → (m.regs.map enc)[j]? = some (enc (reg m j)) := fun h => enc_at (by rw [hm.regs]; exact h)
  refine s_unpD (is := [2, 3, 4, 5, 6, 7, 8]) (ts := [enc m.row, enc m.regs, enc m.kept, enc m.told, enc m.cells, enc m.diary, enc m.fault]) R (x_var rfl) rfl rfl fun F H σ R => ?_
  refine s_nx (s_asgS R (e_rowAt (c := code) (n := m.row) (x_var rfl) (x_var rfl) hrow) fun F H σ R => ?_)
  generalize rowAt code m.row = r at hix q R
  refine s_asgS R (P := Dat (enc (bad m))) (tup7 (m := bad m) (x_var rfl) (x_var rfl) (x_var rfl) (x_var rfl) (x_var rfl) (x_var rfl) x_bl) fun F H σ R => ?_
  replace R : RS _ _ F H σ (laT m code r) := R
  have hF : enc m.fault = T.bl false := by rw [hfa]; rfl
  have five : EvX (tTup (tCons (tC (.str "set")) (tCons (tC (.str "look")) (tCons (tC (.str "copy")) (tCons (tC (.str "add")) (tCons (tC (.str "take")) tNil)))))) (laT m code r) (Dat (.tup ((["set", "look", "copy", "add", "take"] : List Str).map T.str))) :=
    strs_ev (a_cons x_str (a_cons x_str (a_cons x_str (a_cons x_str (a_cons x_str a_nil))))) (by decide)
  rcases Classical.em (∃ dst : Nat, dst < 8 ∧ aft m r = (num m dst (val m r), none) ∧ NumOk m r ∧ wordOf r ∈ (["set", "look", "copy", "add", "take"] : List Str) ∧ (argsOf r)[0]? = some (.int (dst : Int))) with ⟨dst, hd, e, hno, hw, hdst⟩ | hnn
  · refine s_ifT R (x_test (e_inS (row_wd (r := r) rfl) five)) (decide_eq_true hw) fun F H R => ?_
    refine s_asgS R (P := Dat (.int (val m r))) (x_call (m, r) ⟨hm, hno⟩ (a_cons (x_var rfl) (a_cons (x_var rfl) a_nil)) rfl) fun F H σ R => ?_
    refine s_asgS R (P := Dat (enc (m.regs.set dst (val m r)))) (c_set (as := m.regs) (n := dst) (a := val m r) (x_var rfl) (row_arg (r := r) (n := 0) rfl hdst) (x_var rfl) (by rw [hm.regs]; exact hd) (by rw [hm.regs]; decide)) fun F H σ R => ?_
    have hpow : ∀ {Ps : Tys}, EvX (tOp rPowI (tC (.int 10)) (tC (.int 12))) Ps (Dat (.int 1000000000000)) := fun {Ps} => (e_pow (i := 10) (j := 12) x_int x_int ⟨by decide, by decide, by decide⟩).cast (by rw [show ((10 : Int) ^ (12 : Int).toNat) = 1000000000000 by decide])
    refine s_ret R (P := Dat (.tup [enc (num m dst (val m r)), .non])) ?_ (by rw [show aftT m r = .tup [enc (num m dst (val m r)), .non] by unfold aftT; rw [e]; rfl] at q; exact q)
    refine tup2 ?_ x_non
    refine x_ifE (x_test (e_le (e_abs (x_var rfl)) hpow)) (fun h => ?_) fun h => ?_
    · have hv : (val m r).natAbs ≤ 1000000000000 := by
        rw [decide_eq_true_eq] at h
        split at h <;> omega
      unfold num
      rw [if_pos hv]
      exact tup7 (m := { m with row := m.row + 1, regs := m.regs.set dst (val m r) }) ((e_add (i := (m.row : Int)) (j := 1) (x_var rfl) x_int).cast rfl) (x_var rfl) (x_var rfl) (x_var rfl) (x_var rfl) (x_var rfl) (by show EvX _ _ (Dat (enc m.fault)); rw [hF]; exact x_bl)
    · have hv : ¬ (val m r).natAbs ≤ 1000000000000 := by
        rw [decide_eq_false_iff_not] at h
        split at h <;> omega
      unfold num
      rw [if_neg hv]
      exact x_var rfl
  · refine s_ifF R (x_test (e_inS (row_wd (r := r) rfl) five)) (by
      refine decide_eq_false fun hw => ?_
      cases r with
      | set a n => exact hnn ⟨a, hix, rfl, hix, hw, rfl⟩
      | copy a b => exact hnn ⟨a, hix.1, rfl, hix, hw, rfl⟩
      | add a b c => exact hnn ⟨a, hix.1, rfl, hix, hw, rfl⟩
      | take a b c => exact hnn ⟨a, hix.1, rfl, hix, hw, rfl⟩
      | look a b => exact hnn ⟨a, hix.1, rfl, hix, hw, rfl⟩
      | _ => revert hw; simp only [wordOf]; decide +kernel) fun F H R => ?_
    clear five
    have hwd : ∀ {x : Str}, EvT (tTest (tOp rEqS (tOp (rIxT K) (tVar 9) (tC (.int 0))) (tC (.str x)))) (laT m code r) (decide (wordOf r = x)) := fun {x} => x_test (e_eqS (row_wd (r := r) rfl) x_str)
    have hwv : ∀ {x : Str} {Ps : Tys}, Ps[9]? = some (some (Dat (rowT r))) → EvX (tOp rEqS (tOp (rIxT K) (tVar 9) (tC (.int 0))) (tC (.str x))) Ps (Dat (.bl (decide (wordOf r = x)))) := fun h => e_eqS (row_wd (r := r) h) x_str
    have hrow1 : ∀ {Ps : Tys}, Ps[2]? = some (some (Dat (enc m.row))) → EvX (tOp rAddI (tVar 2) (tC (.int 1))) Ps (Dat (enc (m.row + 1))) := fun h => (e_add (i := (m.row : Int)) (j := 1) (x_var h) x_int).cast rfl
    have hfl : ∀ {Ps : Tys}, EvX (tC (.bl false)) Ps (Dat (enc m.fault)) := fun {Ps} => by rw [hF]; exact x_bl
    have hkm : (m.kept.map enc).length = m.kept.length := List.length_map ..
    have hregA : ∀ {Ps : Tys} {n j : Nat}, Ps[9]? = some (some (Dat (rowT r))) → Ps[3]? = some (some (Dat (enc m.regs))) → (argsOf r)[n]? = some (.int (j : Int)) → j < 8 → EvX (tOp (rIxT K) (tVar 3) (tOp (rIxT K) (tVar 9) (tC (.int ((n + 1 : Nat) : Int))))) Ps (Dat (.int (reg m j))) :=
      fun h1 h2 h3 h4 => x_ixV (ts := m.regs.map enc) (x_var h2) (row_arg (r := r) h1 h3) (hreg h4)
    cases r with
    | set a n => exact absurd ⟨a, hix, rfl, hix, (by simp only [wordOf]; decide +kernel), rfl⟩ hnn
    | copy a b => exact absurd ⟨a, hix.1, rfl, hix, (by simp only [wordOf]; decide +kernel), rfl⟩ hnn
    | add a b c => exact absurd ⟨a, hix.1, rfl, hix, (by simp only [wordOf]; decide +kernel), rfl⟩ hnn
    | take a b c => exact absurd ⟨a, hix.1, rfl, hix, (by simp only [wordOf]; decide +kernel), rfl⟩ hnn
    | look a b => exact absurd ⟨a, hix.1, rfl, hix, (by simp only [wordOf]; decide +kernel), rfl⟩ hnn
    | put c a =>
      refine s_ifT R hwd (decide_eq_true (by simp only [wordOf])) fun F H R => ?_
      exact s_ret R (tup2 (tup7 (m := { m with row := m.row + 1 }) (hrow1 rfl) (x_var rfl) (x_var rfl) (x_var rfl) (x_var rfl) (x_var rfl) hfl) (tup2 (a := .int c) (b := .int (reg m a)) (row_arg (n := 0) rfl rfl) (hregA (n := 1) rfl rfl rfl hix))) q
    | tell a =>
      refine s_ifF R hwd (decide_eq_false (by simp only [wordOf]; decide +kernel)) fun F H R => ?_
      refine s_ifT R hwd (decide_eq_true (by simp only [wordOf])) fun F H R => ?_
      exact s_ret R (tup2 (tup7 (m := { m with row := m.row + 1, told := m.told ++ [reg m a] }) (hrow1 rfl) (x_var rfl) (x_var rfl) (x_snoc (as := m.told) (a := reg m a) (x_var rfl) (hregA (n := 0) rfl rfl rfl hix) (by have := hm.told; omega)) (x_var rfl) (x_var rfl) hfl) x_non) q
    | back =>
      refine s_ifF R hwd (decide_eq_false (by simp only [wordOf]; decide +kernel)) fun F H R => ?_
      refine s_ifF R hwd (decide_eq_false (by simp only [wordOf]; decide +kernel)) fun F H R => ?_
      refine s_ifT R hwd (decide_eq_true (by simp only [wordOf])) fun F H R => ?_
      refine s_ret R (P := Dat (aftT m .back)) (tup2 (x_ifE (x_test (e_gt (e_lenD (ts := m.kept.map enc) (x_var rfl)) x_int)) (fun h => ?_) fun h => ?_) x_non) q
      · have hk : 0 < m.kept.length := by
          rw [hkm, decide_eq_true_eq] at h
          omega
        have hlast : (m.kept.map enc)[m.kept.length - 1]? = some (enc (m.kept.getLastD 0)) := by
          rw [List.getElem?_map, ← List.getLast?_eq_getElem?, List.getLastD_eq_getLast?]
          cases hq : m.kept.getLast? with
          | none => rw [List.getLast?_eq_none_iff.mp hq] at hk; exact absurd hk (by decide)
          | some v => rfl
        show EvX _ _ (Dat (enc (if 0 < m.kept.length then _ else _)))
        rw [if_pos hk]
        exact tup7 (m := { m with row := m.kept.getLastD 0, kept := m.kept.dropLast }) (x_ixD (ts := m.kept.map enc) (n := m.kept.length - 1) (x_var rfl) (e_neg x_int) (by rw [hkm]; exact ixN_m1 hk) hlast) (x_var rfl) (x_slD (ts := m.kept.map enc) (x_var rfl) o_none (o_some (e_neg x_int)) (us := m.kept.dropLast.map enc) (by rw [cut_last, List.map_dropLast])) (x_var rfl) (x_var rfl) (x_var rfl) hfl
      · have hk : ¬ 0 < m.kept.length := by
          rw [hkm, decide_eq_false_iff_not] at h
          omega
        show EvX _ _ (Dat (enc (if 0 < m.kept.length then _ else _)))
        rw [if_neg hk]
        exact x_var rfl
    | call to =>
      refine s_ifF R hwd (decide_eq_false (by simp only [wordOf]; decide +kernel)) fun F H R => ?_
      refine s_ifF R hwd (decide_eq_false (by simp only [wordOf]; decide +kernel)) fun F H R => ?_
      refine s_ifF R hwd (decide_eq_false (by simp only [wordOf]; decide +kernel)) fun F H R => ?_
      refine s_ifT R hwd (decide_eq_true (by simp only [wordOf])) fun F H R => ?_
      refine s_ret R (P := Dat (aftT m (.call to))) (tup2 (x_ifE (x_test (e_lt (e_lenD (ts := m.kept.map enc) (x_var rfl)) x_int)) (fun h => ?_) fun h => ?_) x_non) q
      · have hk : m.kept.length < 20 := by
          rw [hkm, decide_eq_true_eq] at h
          omega
        show EvX _ _ (Dat (enc (if m.kept.length < 20 then _ else _)))
        rw [if_pos hk]
        exact tup7 (m := { m with row := to, kept := m.kept ++ [m.row + 1] }) (row_arg (n := 0) rfl rfl) (x_var rfl) (x_snoc (as := m.kept) (a := m.row + 1) (x_var rfl) (hrow1 rfl) (by omega)) (x_var rfl) (x_var rfl) (x_var rfl) hfl
      · have hk : ¬ m.kept.length < 20 := by
          rw [hkm, decide_eq_false_iff_not] at h
          omega
        show EvX _ _ (Dat (enc (if m.kept.length < 20 then _ else _)))
        rw [if_neg hk]
        exact x_var rfl
    | rest =>
      refine s_ifF R hwd (decide_eq_false (by simp only [wordOf]; decide +kernel)) fun F H R => ?_
      refine s_ifF R hwd (decide_eq_false (by simp only [wordOf]; decide +kernel)) fun F H R => ?_
      refine s_ifF R hwd (decide_eq_false (by simp only [wordOf]; decide +kernel)) fun F H R => ?_
      refine s_ifF R hwd (decide_eq_false (by simp only [wordOf]; decide +kernel)) fun F H R => ?_
      have g1 : decide (wordOf (.rest) = "go") = false := (decide_eq_false (by simp only [wordOf]; decide +kernel))
      have g2 : decide (wordOf (.rest) = "same") = false := (decide_eq_false (by simp only [wordOf]; decide +kernel))
      have g3 : decide (wordOf (.rest) = "less") = false := (decide_eq_false (by simp only [wordOf]; decide +kernel))
      refine s_asgS R (P := Dat (.bl (false))) ((x_orV (hwv rfl) fun _ => x_andV (c := false) (hwv rfl) fun h => absurd (of_decide_eq_true h) (by simp only [wordOf]; decide +kernel)).cast (by rw [g1, g2]; simp)) fun F H σ R => ?_
      refine s_asgS R (P := Dat (.bl (false))) ((x_orV (x_var (P := Dat (.bl (false))) rfl) fun _ => x_andV (c := false) (hwv rfl) fun h => absurd (of_decide_eq_true h) (by simp only [wordOf]; decide +kernel)).cast (by rw [g3]; simp)) fun F H σ R => ?_
      refine s_ret R (P := Dat (aftT m (.rest))) (tup2 (tup7 (m := { m with row := m.row + 1 }) (x_ifE (x_test (x_var (P := Dat (.bl (false))) rfl)) (fun h => ?_) fun h => ?_) (x_var rfl) (x_var rfl) (x_var rfl) (x_var rfl) (x_var rfl) hfl) x_non) q
      · cases h
      · exact hrow1 rfl
    | go to =>
      refine s_ifF R hwd (decide_eq_false (by simp only [wordOf]; decide +kernel)) fun F H R => ?_
      refine s_ifF R hwd (decide_eq_false (by simp only [wordOf]; decide +kernel)) fun F H R => ?_
      refine s_ifF R hwd (decide_eq_false (by simp only [wordOf]; decide +kernel)) fun F H R => ?_
      refine s_ifF R hwd (decide_eq_false (by simp only [wordOf]; decide +kernel)) fun F H R => ?_
      have g1 : decide (wordOf (.go to) = "go") = true := (decide_eq_true (by simp only [wordOf]))
      have g2 : decide (wordOf (.go to) = "same") = false := (decide_eq_false (by simp only [wordOf]; decide +kernel))
      have g3 : decide (wordOf (.go to) = "less") = false := (decide_eq_false (by simp only [wordOf]; decide +kernel))
      refine s_asgS R (P := Dat (.bl (true))) ((x_orV (hwv rfl) fun _ => x_andV (c := false) (hwv rfl) fun h => absurd (of_decide_eq_true h) (by simp only [wordOf]; decide +kernel)).cast (by rw [g1, g2]; simp)) fun F H σ R => ?_
      refine s_asgS R (P := Dat (.bl (true))) ((x_orV (x_var (P := Dat (.bl (true))) rfl) fun _ => x_andV (c := false) (hwv rfl) fun h => absurd (of_decide_eq_true h) (by simp only [wordOf]; decide +kernel)).cast (by rw [g3]; simp)) fun F H σ R => ?_
      refine s_ret R (P := Dat (aftT m (.go to))) (tup2 (tup7 (m := { m with row := to }) (x_ifE (x_test (x_var (P := Dat (.bl (true))) rfl)) (fun h => ?_) fun h => ?_) (x_var rfl) (x_var rfl) (x_var rfl) (x_var rfl) (x_var rfl) hfl) x_non) q
      · exact x_ixD (n := 1) (ts := [.str "go", .int to]) (x_var rfl) (e_neg x_int) (ixN_m1 (Nat.succ_pos _)) rfl
      · cases h
    | same a b to =>
      refine s_ifF R hwd (decide_eq_false (by simp only [wordOf]; decide +kernel)) fun F H R => ?_
      refine s_ifF R hwd (decide_eq_false (by simp only [wordOf]; decide +kernel)) fun F H R => ?_
      refine s_ifF R hwd (decide_eq_false (by simp only [wordOf]; decide +kernel)) fun F H R => ?_
      refine s_ifF R hwd (decide_eq_false (by simp only [wordOf]; decide +kernel)) fun F H R => ?_
      have g1 : decide (wordOf (.same a b to) = "go") = false := (decide_eq_false (by simp only [wordOf]; decide +kernel))
      have g2 : decide (wordOf (.same a b to) = "same") = true := (decide_eq_true (by simp only [wordOf]))
      have g3 : decide (wordOf (.same a b to) = "less") = false := (decide_eq_false (by simp only [wordOf]; decide +kernel))
      refine s_asgS R (P := Dat (.bl (decide (reg m a = reg m b)))) ((x_orV (hwv rfl) fun _ => x_andV (c := decide (reg m a = reg m b)) (hwv rfl) fun h => e_eqI (i := reg m a) (j := reg m b) (hregA (n := 0) rfl rfl rfl hix.1) (hregA (n := 1) rfl rfl rfl hix.2)).cast (by rw [g1, g2]; simp)) fun F H σ R => ?_
      refine s_asgS R (P := Dat (.bl (decide (reg m a = reg m b)))) ((x_orV (x_var (P := Dat (.bl (decide (reg m a = reg m b)))) rfl) fun _ => x_andV (c := false) (hwv rfl) fun h => absurd (of_decide_eq_true h) (by simp only [wordOf]; decide +kernel)).cast (by rw [g3]; simp)) fun F H σ R => ?_
      refine s_ret R (P := Dat (aftT m (.same a b to))) (tup2 (tup7 (m := { m with row := if reg m a = reg m b then to else m.row + 1 }) (x_ifE (x_test (x_var (P := Dat (.bl (decide (reg m a = reg m b)))) rfl)) (fun h => ?_) fun h => ?_) (x_var rfl) (x_var rfl) (x_var rfl) (x_var rfl) (x_var rfl) hfl) x_non) q
      · show EvX _ _ (Dat (enc (if reg m a = reg m b then to else m.row + 1)))
        rw [if_pos (of_decide_eq_true h)]
        exact x_ixD (n := 3) (ts := [.str "same", .int a, .int b, .int to]) (x_var rfl) (e_neg x_int) (ixN_m1 (Nat.succ_pos _)) rfl
      · show EvX _ _ (Dat (enc (if reg m a = reg m b then to else m.row + 1)))
        rw [if_neg (of_decide_eq_false h)]
        exact hrow1 rfl
    | less a b to =>
      refine s_ifF R hwd (decide_eq_false (by simp only [wordOf]; decide +kernel)) fun F H R => ?_
      refine s_ifF R hwd (decide_eq_false (by simp only [wordOf]; decide +kernel)) fun F H R => ?_
      refine s_ifF R hwd (decide_eq_false (by simp only [wordOf]; decide +kernel)) fun F H R => ?_
      refine s_ifF R hwd (decide_eq_false (by simp only [wordOf]; decide +kernel)) fun F H R => ?_
      have g1 : decide (wordOf (.less a b to) = "go") = false := (decide_eq_false (by simp only [wordOf]; decide +kernel))
      have g2 : decide (wordOf (.less a b to) = "same") = false := (decide_eq_false (by simp only [wordOf]; decide +kernel))
      have g3 : decide (wordOf (.less a b to) = "less") = true := (decide_eq_true (by simp only [wordOf]))
      refine s_asgS R (P := Dat (.bl (false))) ((x_orV (hwv rfl) fun _ => x_andV (c := false) (hwv rfl) fun h => absurd (of_decide_eq_true h) (by simp only [wordOf]; decide +kernel)).cast (by rw [g1, g2]; simp)) fun F H σ R => ?_
      refine s_asgS R (P := Dat (.bl (decide (reg m a < reg m b)))) ((x_orV (x_var (P := Dat (.bl (false))) rfl) fun _ => x_andV (c := decide (reg m a < reg m b)) (hwv rfl) fun h => e_lt (i := reg m a) (j := reg m b) (hregA (n := 0) rfl rfl rfl hix.1) (hregA (n := 1) rfl rfl rfl hix.2)).cast (by rw [g3]; simp)) fun F H σ R => ?_
      refine s_ret R (P := Dat (aftT m (.less a b to))) (tup2 (tup7 (m := { m with row := if reg m a < reg m b then to else m.row + 1 }) (x_ifE (x_test (x_var (P := Dat (.bl (decide (reg m a < reg m b)))) rfl)) (fun h => ?_) fun h => ?_) (x_var rfl) (x_var rfl) (x_var rfl) (x_var rfl) (x_var rfl) hfl) x_non) q
      · show EvX _ _ (Dat (enc (if reg m a < reg m b then to else m.row + 1)))
        rw [if_pos (of_decide_eq_true h)]
        exact x_ixD (n := 3) (ts := [.str "less", .int a, .int b, .int to]) (x_var rfl) (e_neg x_int) (ixN_m1 (Nat.succ_pos _)) rfl
      · show EvX _ _ (Dat (enc (if reg m a < reg m b then to else m.row + 1)))
        rw [if_neg (of_decide_eq_false h)]
        exact hrow1 rfl
end
end G
namespace G
open PySem PySem.Spec PyProof.Rows L2
open Enc (enc)
abbrev s_law_behind : Stmt := top 63
abbrev nm_law_behind : List Str := ["_law_wires_here", "_law_codes", "_law_here", "_law_step", "_law_states", "_law_letters", "_law_machine", "_law_state", "_law_told", "_law_put", "_law_one", "_law_at"]
abbrev ps_law_behind : List Str := ["_law_wires_here", "_law_codes", "_law_here", "_law_step"]
theorem sc_law_behind : FnScope nm_law_behind ps_law_behind (defScope s_law_behind) := ⟨rfl, rfl, rfl, by decide +kernel, rfl, by decide +kernel, by decide +kernel⟩
theorem MSOk.mOk {g : PG} {k i : Nat} {m : MS} (hg : PGOk g) (h : MSOk g k i m) (hk : k ≤ 45000) : MOk m ∧ m.cells.length = g.os.length := by
  have h1 : m.cells.length = g.os.length := by rw [h.cells, cellsOf_len]
  have := hg.o3
  exact ⟨⟨by omega, Nat.le_trans h.diary (by omega), Nat.le_trans h.told (by omega), h.regs, h.kmax⟩, h1⟩
theorem ws_nodup {g : PG} (hg : PGOk g) : g.ws.Nodup := hg.wlt.imp fun {p q} h e => by subst e; omega
/-- the letter that a step takes in is there -/
theorem come_at {g : PG} {k : Nat} {sd : SD} {y x : Nat} (hg : PGOk g) (h : SDOk g k sd) (hs : .come y x ∈ can g sd) :
    (y, x) ∈ g.ws ∧ g.ws.idxOf (y, x) < sd.ls.length ∧ x < g.cs.length ∧ ∃ p r, sd.ls[g.ws.idxOf (y, x)]? = some (p :: r) := by
  obtain ⟨l, h1, h2⟩ := can_come hs
  have hm := (List.of_mem_zip h1).1
  obtain ⟨i, hi⟩ := List.mem_iff_getElem?.mp h1
  obtain ⟨a1, a2⟩ := List.getElem?_zip_eq_some.mp hi
  have hil : i < g.ws.length := (List.getElem?_eq_some_iff.mp a1).1
  have e1 : g.ws[i] = (y, x) := (List.getElem?_eq_some_iff.mp a1).2
  have e2 : g.ws.idxOf (y, x) = i := by
    rw [← e1]
    exact (ws_nodup hg).idxOf_getElem i hil
  rw [e2]
  refine ⟨hm, by rw [h.lln]; exact hil, (hg.wok _ hm).2.1, ?_⟩
  cases l with
  | nil => exact absurd h2 (Nat.lt_irrefl _)
  | cons p r => exact ⟨p, r, a2⟩
section
variable {P : Program} {w : World} {K : PySem.W.Frag} {mg : Str → Option Value} {base : Heap} {f f1 f2 f3 f4 C : Addr} {fd fd1 fd2 fd3 fd4 : FuncData}
/-- a standing in order, with a step that can be done -/
structure StepOk (g : PG) (sd : SD) (s : Step) : Prop where
  gok : PGOk g
  sok : ∃ k, k ≤ 40000 ∧ SDOk g k sd
  sin : s ∈ can g sd
  wfew : g.ws.length ≤ 1000
abbrev sp_law_behind : Sp := SpG (fun i : PG × SD × Step => StepOk i.1 i.2.1 i.2.2) fun i => ([wsP i.1.ws, Dat (csT i.1.cs), Dat (enc i.2.1), Dat (enc i.2.2)], Dat (enc (behind i.1 i.2.1 i.2.2)))
theorem e_ssAt {K : PySem.W.Frag} {Ps : Tys} {ta tb : TE} {ss : List MS} {i : Nat} (ha : EvX ta Ps (Dat (enc ss))) (hb : EvX tb Ps (Dat (.int (i : Int)))) (hi : i < ss.length) : EvX (tOp (rIxT K) ta tb) Ps (Dat (enc (ss.getD i ms0))) :=
  x_ixV (ts := ss.map enc) ha hb (enc_at hi)
theorem step_at {K : PySem.W.Frag} {Ps : Tys} {j n : Nat} {s : Step} {ts : List T} {t : T} (h : Ps[j]? = some (some (Dat (enc s)))) (e : stepT s = .tup ts) (ht : ts[n]? = some t) : EvX (tOp (rIxT K) (tVar j) (tC (.int (n : Int)))) Ps (Dat t) :=
  x_ixC (ts := ts) (x_var (by rw [← e]; exact h)) ht
theorem ok__law_behind (F : Fun K "_law_behind" "_law_behind" s_law_behind f fd) (B : Bi mg) (G_law_after : GF P w K mg base "_law_after" ps_law_after 4 sp_law_after f1 fd1) (G_law_set : GF P w K mg base "_law_set" ps_law_set 3 sp_set f2 fd2)
    (G_law_sent : GF P w K mg base "_law_sent" ps_law_sent 3 sp_law_sent f3 fd3) (G_law_noted : GF P w K mg base "_law_noted" ps_law_noted 4 sp_law_noted f4 fd4) : FnOk P w K mg base CX0 5 f fd ps_law_behind sp_law_behind := by
  refine okG F sc_law_behind (fun _ => rfl) fun cdv A outer s H E hr => ⟨_, (pss_cons (ps_asg (pv 2) (kPG (K := K) (pg_tup (n := 2) rfl (pgs_cons (pg_name (i := 4) sc_law_behind.nd rfl (Or.inl rfl)) (pgs_cons (pg_name (i := 5) sc_law_behind.nd rfl (Or.inl rfl)) pgs_nil))) rfl))
  (pss_cons (ps_if (pt_cmpR oEqS (pe_ix (kIx (r := rIxT) (K := K) ix_tup rfl) (pv 3) pe_int (fun _ _ => rfl)) pe_str (nomark _))
  (pss_cons (ps_set (i := 6) sc_law_behind.nd rfl (Or.inr rfl) (pe_ix (kIx (r := rIxT) (K := K) ix_tup rfl) (pv 3) pe_int (fun _ _ => rfl)))
  (pss_cons (ps_asg (pe_f G_law_after (hr.mono (by decide)) rfl (pa_cons (pe_ix (kIx (r := rIxT) (K := K) ix_tup rfl) (pv 4) (pv 6) (fun _ _ => rfl)) (pa_cons (pe_ix (kIx (r := rIxT) (K := K) ix_tup rfl) (pv 1) (pv 6) (fun _ _ => rfl)) pa_nil))) (kPG (K := K) (pg_tup (n := 2) rfl (pgs_cons (pg_name (i := 7) sc_law_behind.nd rfl (Or.inl rfl)) (pgs_cons (pg_name (i := 8) sc_law_behind.nd rfl (Or.inl rfl)) pgs_nil))) rfl))
  (pss_cons (ps_if (pt_cmpR oIsN (pv 8) pe_non (nomark _))
  (pss_one (ps_ret (pe_tup (pa_cons (pe_f G_law_set (hr.mono (by decide)) rfl (pa_cons (pv 4) (pa_cons (pv 6) (pa_cons (pv 7) pa_nil)))) (pa_cons (pv 5) pa_nil)))))
  pss_nil)
  (pss_cons (ps_set (i := 9) sc_law_behind.nd rfl (Or.inl rfl) (pe_tup (pa_cons (pv 6) (pa_cons (pe_callB (kC (r := rLenG) (K := K) cLen rfl) (by rfl) B.len_ b_len (pa_cons (pe_lc (own := [("_law_one", 10)]) rfl sc_law_behind.nd (kPI (r := iTup) (K := K) (pi_tup (pe_ix (kIx (r := rIxT) (K := K) ix_tup rfl) (pv 7) pe_int (fun _ _ => rfl))) rfl) (blkOk_by (N := nm_law_behind) (sc := defScope s_law_behind) (by decide +kernel)) (fun _ _ _ _ _ => (pg_name (i := 10) sc_law_behind.nd rfl (Or.inl rfl))) (fun _ _ _ _ _ => (pts_one (pt_cmpR oEqS (pe_ix (kIx (r := rIxT) (K := K) ix_tup rfl) (pv 10) pe_int (fun _ _ => rfl)) (pv 6) (nomark _)))) (fun _ _ _ _ _ => (pv 10))) pa_nil)) (pa_cons (pe_ix (kIx (r := rIxT) (K := K) ix_tup rfl) (pv 8) pe_int (fun _ _ => rfl)) (pa_cons (pe_ix (kIx (r := rIxT) (K := K) ix_tup rfl) (pv 8) pe_int (fun _ _ => rfl)) pa_nil))))))
  (pss_cons (ps_set (i := 5) sc_law_behind.nd rfl (Or.inl rfl) (pe_f G_law_sent (hr.mono (by decide)) rfl (pa_cons (pv 0) (pa_cons (pv 5) (pa_cons (pv 6) (pa_cons (pv 9) pa_nil))))))
  (pss_one (ps_ret (pe_tup (pa_cons (pe_f G_law_set (hr.mono (by decide)) rfl (pa_cons (pv 4) (pa_cons (pv 6) (pa_cons (pe_f G_law_noted (hr.mono (by decide)) rfl (pa_cons (pv 7) (pa_cons (pv 9) pa_nil))) pa_nil)))) (pa_cons (pv 5) pa_nil))))))))))
  pss_nil)
  (pss_cons (ps_set (i := 11) sc_law_behind.nd rfl (Or.inl rfl) (pe_indexZ (ru65 (hr.mono (by decide))) (pv 0) (pa_cons (pe_slice (kSl (r := rSlA) (K := K) sl_tupA rfl) (pv 3) (po_some pe_int) po_none) pa_nil)))
  (pss_cons (ps_set (i := 9) sc_law_behind.nd rfl (Or.inl rfl) (pe_ix (kIx (r := rIxT) (K := K) ix_tup rfl) (pe_ix (kIx (r := rIxT) (K := K) ix_tup rfl) (pv 5) (pv 11) (fun _ _ => rfl)) pe_int (fun _ _ => rfl)))
  (pss_cons (ps_set (i := 5) sc_law_behind.nd rfl (Or.inl rfl) (pe_f G_law_set (hr.mono (by decide)) rfl (pa_cons (pv 5) (pa_cons (pv 11) (pa_cons (pe_slice (kSl (r := rSlA) (K := K) sl_tupA rfl) (pe_ix (kIx (r := rIxT) (K := K) ix_tup rfl) (pv 5) (pv 11) (fun _ _ => rfl)) (po_some pe_int) po_none) pa_nil)))))
  (pss_cons (ps_if (pt_cmpR (kOp (r := rInT) (K := K) (oInT (ru65 (hr.mono (by decide)))) rfl) (pv 9) (pe_ix (kIx (r := rIxT) (K := K) ix_tup rfl) (pe_ix (kIx (r := rIxT) (K := K) ix_tup rfl) (pv 4) (pe_ix (kIx (r := rIxT) (K := K) ix_tup rfl) (pv 3) pe_int (fun _ _ => rfl)) (fun _ _ => rfl)) pe_int (fun _ _ => rfl)) rfl)
  (pss_one (ps_ret (pe_tup (pa_cons (pv 4) (pa_cons (pv 5) pa_nil)))))
  pss_nil)
  (pss_cons (ps_set (i := 5) sc_law_behind.nd rfl (Or.inl rfl) (pe_f G_law_sent (hr.mono (by decide)) rfl (pa_cons (pv 0) (pa_cons (pv 5) (pa_cons (pe_ix (kIx (r := rIxT) (K := K) ix_tup rfl) (pv 3) pe_int (fun _ _ => rfl)) (pa_cons (pv 9) pa_nil))))))
  (pss_one (ps_ret (pe_tup (pa_cons (pe_f G_law_set (hr.mono (by decide)) rfl (pa_cons (pv 4) (pa_cons (pe_ix (kIx (r := rIxT) (K := K) ix_tup rfl) (pv 3) pe_int (fun _ _ => rfl)) (pa_cons (pe_f G_law_noted (hr.mono (by decide)) rfl (pa_cons (pe_ix (kIx (r := rIxT) (K := K) ix_tup rfl) (pv 4) (pe_ix (kIx (r := rIxT) (K := K) ix_tup rfl) (pv 3) pe_int (fun _ _ => rfl)) (fun _ _ => rfl)) (pa_cons (pv 9) pa_nil))) pa_nil)))) (pa_cons (pv 5) pa_nil)))))))))))), fun i F vs Q hp R q => ?_⟩
  obtain ⟨g, sd, st⟩ := i
  obtain ⟨hg, ⟨k, hk, hsd⟩, hst, hws⟩ : StepOk g sd st := hp
  replace q : ∀ v F' H', Gr F H F' H' → (Dat (enc (behind g sd st))).p F' v → Q v H' := q
  have hlen : sd.ss.length ≤ 1000 := by rw [hsd.len]; have := hg.n4; omega
  refine s_unpD (is := [4, 5]) (ts := [enc sd.ss, enc sd.ls]) R (x_var rfl) rfl rfl fun F H σ R => ?_
  cases st with
  | act i =>
    obtain ⟨hi, hrun⟩ := can_act.mp hst
    obtain ⟨hfa, hrow⟩ := runs_row hsd hi hrun
    obtain ⟨hat, hms⟩ := hsd.at_ hi
    obtain ⟨hmo, hcl⟩ := hms.mOk hg (by omega)
    have hil : i < sd.ss.length := by rw [hsd.len]; exact hi
    have hro := hg.row hi hrow
    have hix := rowOk_ix hro hcl
    have haft := aft_ok hms hrow hro
    refine s_nx (s_ifT R (x_test (e_eqS (step_at (n := 0) rfl rfl rfl) x_str)) (by decide +kernel) fun F H R => ?_)
    refine s_asgS R (P := Dat (.int (i : Int))) (step_at (n := 1) rfl rfl rfl) fun F H σ R => ?_
    generalize hm : msAt sd i = m at hfa hrow hat hms hmo hcl hro hix haft
    have hm' : sd.ss.getD i ms0 = m := hm
    have hcode : codeOf g i = g.cs.getD i [] := rfl
    generalize hr0 : rowAt (codeOf g i) m.row = r at hro hix haft
    have haf : aftT m (rowAt (g.cs.getD i []) m.row) = .tup [enc (aft m r).1, putO (aft m r).2] := by rw [← hr0]; rfl
    refine s_unpD (is := [7, 8]) (ts := [enc (aft m r).1, putO (aft m r).2]) R ?_ rfl rfl fun F H σ R => ?_
    · rw [← haf]
      refine x_call (m, g.cs.getD i []) ⟨hmo, hrow, by rw [show rowAt (m, g.cs.getD i []).2 (m, g.cs.getD i []).1.row = r from hr0]; exact hix, hfa⟩ (a_cons ?_ (a_cons (e_code (x_var rfl) (x_var rfl) hi) a_nil)) rfl
      rw [← hm']
      exact e_ssAt (x_var rfl) (x_var rfl) hil
    obtain ⟨hao, had, hac, hap⟩ := haft
    have hb : behind g sd (.act i) = (match aft m r with
        | (m', none) => ⟨sd.ss.set i m', sd.ls⟩
        | (m', some (c, x)) => ⟨sd.ss.set i (noted m' ⟨i, cntBy i m.diary, c, x⟩), sent g.ws sd.ls i ⟨i, cntBy i m.diary, c, x⟩⟩) := by
      rw [← hr0, ← hm]
      rfl
    rw [hb] at q
    generalize haa : aft m r = ar at q R hao had hac hap
    obtain ⟨m', po⟩ := ar
    cases po with
    | none =>
      refine s_nx (s_ifT R (x_test (e_isN (b := true) (x_var (P := Dat .non) rfl) fun F v p => by rw [dat_non p]; rfl)) rfl fun F H R => ?_)
      exact s_ret R (tup2 (c_set (as := sd.ss) (n := i) (a := m') (x_var rfl) (x_var rfl) (x_var rfl) hil (by omega)) (x_var rfl)) q
    | some cx =>
      obtain ⟨c, x⟩ := cx
      have hc : c < g.os.length := hap c x rfl
      let p : Put := ⟨i, cntBy i m.diary, c, x⟩
      have hz := hao.mOk hg (by omega)
      refine s_nx (s_ifF R (x_test (e_isN (b := false) (x_var (P := Dat (.tup [.int (c : Int), .int x])) rfl) fun F v hv => by obtain ⟨a, xs, rfl, _⟩ := dat_tup.mp hv; rfl)) rfl fun F H R => ?_)
      refine s_next (s_asgS R (P := Dat (enc p)) ?_ fun F H σ R => ?_)
      · refine x_tupD (ts := [enc p.w, enc p.n, enc p.c, enc p.x]) (a_cons (x_var rfl) (a_cons ?_ (a_cons (x_ixC (n := 0) (ts := [.int (c : Int), .int x]) (x_var rfl) rfl) (a_cons (x_ixC (n := 1) (ts := [.int (c : Int), .int x]) (x_var rfl) rfl) a_nil)))) (big (by show 4 ≤ _; decide))
        refine EvX.cast (e_lenL (Qs := (m'.diary.filter fun p => decide (p.w = i)).map fun p => Dat (enc p)) ?_) (by rw [List.length_map, had]; rfl)
        refine x_lc (K := K) (is := [10]) (ts := fun p => [Dat (enc p)]) (b := fun p : Put => decide (p.w = i)) (i_tupM (f := enc) (as := m'.diary) (m_at (n := 5) (m := m') (x_var rfl) rfl)) (fun p _ => .one 10 _) (by decide) (sz1 (Nat.le_trans hz.1.diary (by decide))) (fun p _ => ?_) fun p _ _ => x_var rfl
        exact (x_test (e_eqI (i := (p.w : Int)) (x_ixC (n := 0) (ts := ps4 p) (x_var rfl) rfl) (x_var rfl))).cast nat_eq
      refine s_asgS R (P := Dat (enc (sent g.ws sd.ls i p))) (x_call (g.ws, sd.ls, i, p) ⟨hws, fun l hl => Nat.le_trans (hsd.lok l hl).1 (by omega)⟩ (a_cons (x_var rfl) (a_cons (x_var rfl) (a_cons (x_var rfl) (a_cons (x_var rfl) a_nil)))) rfl) fun F H σ R => ?_
      refine s_ret R (tup2 (c_set (as := sd.ss) (n := i) (a := noted m' p) (x_var rfl) (x_var rfl) (x_call (m', p) ⟨hz.1, by rw [hz.2]; exact hc⟩ (a_cons (x_var rfl) (a_cons (x_var rfl) a_nil)) rfl) hil (by omega)) (x_var rfl)) q
  | come y x =>
    obtain ⟨hm, hj, hx, p, r, hpr⟩ := come_at hg hsd hst
    have hjz : sd.ls.length ≤ 1000 := by rw [hsd.lln]; exact hws
    obtain ⟨hat, hms⟩ := hsd.at_ hx
    obtain ⟨hmo, hcl⟩ := hms.mOk hg (by omega)
    have hxl : x < sd.ss.length := by rw [hsd.len]; exact hx
    have hb : behind g sd (.come y x) = (match sd.ls.getD (g.ws.idxOf (y, x)) [] with
        | [] => sd
        | p :: r => if p ∈ (msAt sd x).diary then ⟨sd.ss, sd.ls.set (g.ws.idxOf (y, x)) r⟩ else ⟨sd.ss.set x (noted (msAt sd x) p), sent g.ws (sd.ls.set (g.ws.idxOf (y, x)) r) x p⟩) := rfl
    rw [hb, List.getD_eq_getElem?_getD, hpr] at q
    replace q : ∀ v F' H', Gr _ _ F' H' → (Dat (enc (if p ∈ (msAt sd x).diary then (⟨sd.ss, sd.ls.set (g.ws.idxOf (y, x)) r⟩ : SD) else ⟨sd.ss.set x (noted (msAt sd x) p), sent g.ws (sd.ls.set (g.ws.idxOf (y, x)) r) x p⟩))).p F' v → Q v H' := q
    have hlok := hsd.lok _ (List.mem_of_getElem? hpr)
    have hpc : p.c < g.os.length := hlok.2 p List.mem_cons_self
    have hne : (("come" : Str) = "do") = False := by simp only [eq_iff_iff, iff_false]; decide +kernel
    refine s_nx (s_ifF R (x_test (e_eqS (step_at (s := .come y x) (n := 0) rfl rfl rfl) x_str)) (by decide +kernel) fun F H R => ?_)
    generalize hj0 : g.ws.idxOf (y, x) = j at hj hpr q
    refine s_next (s_asgS R (P := Dat (.int (j : Int))) ?_ fun F H σ R => ?_)
    · rw [← hj0]
      exact e_indexZ (x_var rfl) (x_slD (ts := [.str "come", .int (y : Int), .int (x : Int)]) (x_var (P := Dat (enc (Step.come y x))) rfl) (o_some (i := 1) x_int) o_none (cut_from _ 1)) hm
    have hlj : (sd.ls.map enc)[j]? = some (enc (p :: r)) := by rw [List.getElem?_map, hpr]; rfl
    refine s_asgS R (P := Dat (enc p)) (x_ixC (n := 0) (ts := enc p :: r.map enc) (x_ixV (ts := sd.ls.map enc) (x_var rfl) (x_var rfl) hlj) rfl) fun F H σ R => ?_
    refine s_asgS R (P := Dat (enc (sd.ls.set j r))) (c_set (as := sd.ls) (n := j) (a := r) (x_var rfl) (x_var rfl) (x_slD (ts := (p :: r).map enc) (us := r.map enc) (x_ixV (ts := sd.ls.map enc) (x_var rfl) (x_var rfl) hlj) (o_some (i := 1) x_int) o_none (cut_from _ 1)) hj (by omega)) fun F H σ R => ?_
    have hss : ∀ {Ps : Tys}, Ps[4]? = some (some (Dat (enc sd.ss))) → Ps[3]? = some (some (Dat (enc (Step.come y x)))) → EvX (tOp (rIxT K) (tVar 4) (tOp (rIxT K) (tVar 3) (tC (.int 2)))) Ps (Dat (enc (msAt sd x))) := fun h1 h2 => e_ssAt (ss := sd.ss) (i := x) (x_var h1) (step_at (s := .come y x) (n := 2) h2 rfl rfl) hxl
    have hin : ∀ {Ps : Tys}, Ps[4]? = some (some (Dat (enc sd.ss))) → Ps[3]? = some (some (Dat (enc (Step.come y x)))) → Ps[9]? = some (some (Dat (enc p))) → EvT (tTest (tOp (rInT K) (tVar 9) (tOp (rIxT K) (tOp (rIxT K) (tVar 4) (tOp (rIxT K) (tVar 3) (tC (.int 2)))) (tC (.int 5))))) Ps (decide (p ∈ (msAt sd x).diary)) := fun h1 h2 h3 => x_test (e_inT (a := p) (as := (msAt sd x).diary) (x_var h3) (m_at (n := 5) (m := msAt sd x) (hss h1 h2) rfl))
    by_cases hd : p ∈ (msAt sd x).diary
    · rw [if_pos hd] at q
      exact s_ifT R (hin rfl rfl rfl) (decide_eq_true hd) fun F H R => s_ret R (tup2 (x_var rfl) (x_var rfl)) q
    · rw [if_neg hd] at q
      refine s_ifF R (hin rfl rfl rfl) (decide_eq_false hd) fun F H R => s_next ?_
      have hlk : ∀ l ∈ sd.ls.set j r, l.length ≤ 50000 := fun l hl => by
        rcases List.mem_or_eq_of_mem_set hl with z | z
        · exact Nat.le_trans (hsd.lok l z).1 (by omega)
        · subst z
          have := hlok.1
          rw [List.length_cons] at this
          omega
      refine s_asgS R (P := Dat (enc (sent g.ws (sd.ls.set j r) x p))) (x_call (g.ws, sd.ls.set j r, x, p) ⟨hws, hlk⟩ (a_cons (x_var rfl) (a_cons (x_var rfl) (a_cons (step_at (s := .come y x) (n := 2) rfl rfl rfl) (a_cons (x_var rfl) a_nil)))) rfl) fun F H σ R => ?_
      exact s_ret R (tup2 (c_set (as := sd.ss) (n := x) (a := noted (msAt sd x) p) (x_var rfl) (step_at (s := .come y x) (n := 2) rfl rfl rfl) (x_call (msAt sd x, p) ⟨hmo, by rw [show (msAt sd x, p).1.cells.length = g.os.length from hcl]; exact hpc⟩ (a_cons (hss rfl rfl) (a_cons (x_var rfl) a_nil)) rfl) hxl (by omega)) (x_var rfl)) q
end
end G
namespace G
open PySem PySem.Spec PyProof.Rows L2
open Enc (enc)
abbrev s_law_lead : Stmt := top 64
abbrev nm_law_lead : List Str := ["_law_wires_here", "_law_owners", "_law_codes", "_law_steps", "_law_here", "_law_step", "_law_part"]
abbrev ps_law_lead : List Str := ["_law_wires_here", "_law_owners", "_law_codes", "_law_steps"]
theorem sc_law_lead : FnScope nm_law_lead ps_law_lead (defScope s_law_lead) := ⟨rfl, rfl, rfl, by decide +kernel, rfl, by decide +kernel, by decide +kernel⟩
abbrev s_law_is : Stmt := top 74
abbrev nm_law_is : List Str := ["_law_told", "_law_due", "_law_one", "_law_two"]
abbrev ps_law_is : List Str := ["_law_told", "_law_due"]
theorem sc_law_is : FnScope nm_law_is ps_law_is (defScope s_law_is) := ⟨rfl, rfl, rfl, by decide +kernel, rfl, by decide +kernel, by decide +kernel⟩
abbrev s_law_ends : Stmt := top 73
abbrev nm_law_ends : List Str := ["_law_found", "_law_codes", "_law_some", "_law_here", "_law_state"]
abbrev ps_law_ends : List Str := ["_law_found", "_law_codes"]
theorem sc_law_ends : FnScope nm_law_ends ps_law_ends (defScope s_law_ends) := ⟨rfl, rfl, rfl, by decide +kernel, rfl, by decide +kernel, by decide +kernel⟩
section
variable {P : Program} {w : World} {K : PySem.W.Frag} {mg : Str → Option Value} {base : Heap} {f f1 f2 f3 f4 C : Addr} {fd fd1 fd2 fd3 fd4 : FuncData}
theorem SDOk.ok2 {g : PG} {k : Nat} {sd : SD} (hg : PGOk g) (h : SDOk g k sd) (hk : k ≤ 45000) (hw : g.ws.length ≤ 1000) : HOk2 g.ws g.cs sd := by
  have := hg.n4
  refine ⟨fun i hi => ?_, h.len, by omega, hw⟩
  obtain ⟨_, hm⟩ := h.at_ hi
  exact ⟨hi, h.len, hm.row, by omega, Nat.le_trans hm.diary (by omega)⟩
def hereOf (g : PG) (l : List Step) : SD := (lead g (first g) l).getD sd0
structure LeadOk (g : PG) (l : List Step) : Prop where
  gok : PGOk g
  wfew : g.ws.length ≤ 1000
  lok : ∃ here, lead g (first g) l = some here
  few : l.length ≤ 40000
/-- the numbers of a step -/
def numsOf : Step → List Nat
  | .act i => [i]
  | .come y x => [y, x]
theorem numsOf_few {g : PG} {sd : SD} {s : Step} (hg : PGOk g) (hs : s ∈ can g sd) : ∀ n ∈ numsOf s, n ≤ 9 := by
  have h4 := hg.n4
  intro n hn
  cases s with
  | act i =>
    have := (can_act.mp hs).1
    have e := List.mem_singleton.mp hn
    omega
  | come y x =>
    obtain ⟨l, h1, _⟩ := can_come hs
    have hw := hg.wok _ (List.of_mem_zip h1).1
    have h5 : y < g.cs.length := hw.1
    have h6 : x < g.cs.length := hw.2.1
    rcases List.mem_cons.mp hn with e | hn
    · omega
    · have := List.mem_singleton.mp hn
      omega
theorem step_tail (s : Step) : ∃ x, stepT s = .tup (.str x :: (numsOf s).map fun (n : Nat) => T.int (n : Int)) := by cases s <;> exact ⟨_, rfl⟩
abbrev sp_law_lead : Sp := SpG (fun i : PG × List Step => LeadOk i.1 i.2) fun i => ([wsP i.1.ws, Dat (osT i.1.os), Dat (csT i.1.cs), LstP (i.2.map fun s => Dat (enc s))], Dat (enc (hereOf i.1 i.2)))
theorem ok__law_lead (F : Fun K "_law_lead" "_law_lead" s_law_lead f fd) (B : Bi mg) (G_law_first : GF P w K mg base "_law_first" ps_law_first 3 sp_law_first f1 fd1) (G_law_can : GF P w K mg base "_law_can" ps_law_can 4 sp_law_can f2 fd2)
    (G_law_behind : GF P w K mg base "_law_behind" ps_law_behind 5 sp_law_behind f3 fd3) (G_law_whole : GF P w K mg base "_law_whole" ps_law_whole 3 sp_law_whole f4 fd4) : FnOk P w K mg base CX0 6 f fd ps_law_lead sp_law_lead := by
  refine okG F sc_law_lead (fun _ => rfl) fun cdv A outer s H E hr => ⟨_, (pss_cons (ps_set (i := 4) sc_law_lead.nd rfl (Or.inl rfl) (pe_f G_law_first (hr.mono (by decide)) rfl (pa_cons (pv 0) (pa_cons (pv 1) (pa_cons (pv 2) pa_nil)))))
  (pss_cons (ps_for PassesOwn.never rfl (kPI (r := iList) (K := K) (pi_list (pv 3)) rfl) (pg_name (i := 5) sc_law_lead.nd rfl (Or.inl rfl))
  (pss_cons (ps_if (PW.pt (pw_or (pt_not (pt_val (pe_callB (kC (r := rIsi) (K := K) call_isi rfl) (by rfl) B.isinstance_ b_isinstance (pa_cons (pv 5) (pa_cons (pe_bltn (v := .ty "tuple") (by rfl) B.tuple_ b_tuple rfl) pa_nil))))) (pw_or1 (pt_not (pt_val (pe_callB (kC (r := rAll) (K := K) (cAll rfl) rfl) (by rfl) B.all_ b_all (pa_cons (pe_lc (own := [("_law_part", 6)]) rfl sc_law_lead.nd (kPI (r := iTup) (K := K) (pi_tup (pe_slice (kSl (r := rSlA) (K := K) sl_tupA rfl) (pv 5) (po_some pe_int) po_none)) rfl) (blkOk_by (N := nm_law_lead) (sc := defScope s_law_lead) (by decide +kernel)) (fun _ _ _ _ _ => (pg_name (i := 6) sc_law_lead.nd rfl (Or.inl rfl))) (fun _ _ _ _ _ => pts_nil) (fun _ _ _ _ _ => (pe_f G_law_whole (hr.mono (by decide)) rfl (pa_cons (pv 6) (pa_cons pe_int (pa_cons pe_int pa_nil)))))) pa_nil)))))))
  (pss_one (ps_ret pe_non))
  pss_nil)
  (pss_cons (ps_if (pt_cmpR (kOp (r := rNotInD) (K := K) (op_notInD (ru65 (hr.mono (by decide)))) rfl) (pv 5) (pe_f G_law_can (hr.mono (by decide)) rfl (pa_cons (pv 0) (pa_cons (pv 2) (pa_cons (pv 4) pa_nil)))) rfl)
  (pss_one (ps_ret pe_non))
  pss_nil)
  (pss_one (ps_set (i := 4) sc_law_lead.nd rfl (Or.inl rfl) (pe_f G_law_behind (hr.mono (by decide)) rfl (pa_cons (pv 0) (pa_cons (pv 2) (pa_cons (pv 4) (pa_cons (pv 5) pa_nil))))))))))
  (pss_one (ps_ret (pv 4))))), fun i F vs Q hp R q => ?_⟩
  obtain ⟨g, l⟩ := i
  obtain ⟨hg, hw, ⟨here, hl⟩, hfew⟩ : LeadOk g l := hp
  replace q : ∀ v F' H', Gr F H F' H' → (Dat (enc (hereOf g l))).p F' v → Q v H' := q
  let mid : Nat → SD := fun i => hereOf g (l.take i)
  have hmid : ∀ i, i ≤ l.length → lead g (first g) (l.take i) = some (mid i) ∧ SDOk g i (mid i) ∧ ∀ s, l[i]? = some s → s ∈ can g (mid i) ∧ mid (i + 1) = behind g (mid i) s := fun i hi => by
    obtain ⟨m, m1, m2⟩ := lead_take g l (first g) here i hl hi
    have e : mid i = m := by show hereOf g (l.take i) = m; unfold hereOf; rw [m1]; rfl
    rw [e]
    refine ⟨m1, ?_, fun s hs => ⟨(m2 s hs).1, ?_⟩⟩
    · have := lead_ok hg _ 0 _ _ (SDOk.first hg) m1
      rw [Nat.zero_add, List.length_take, Nat.min_eq_left hi] at this
      exact this
    · show hereOf g (l.take (i + 1)) = _
      unfold hereOf
      rw [(m2 s hs).2]
      rfl
  have h4 := hg.n4
  have h3 := hg.o3
  refine s_asg R (P := Dat (enc (first g))) (x_call g ⟨by omega, by omega, hw⟩ (a_cons (x_var rfl) (a_cons (x_var rfl) (a_cons (x_var rfl) a_nil))) rfl) fun F H σ R => ?_
  let Pt : Nat → Tys := fun i => [some (wsP g.ws), some (Dat (osT g.os)), some (Dat (csT g.cs)), some (LstP (l.map fun s => Dat (enc s))), some (Dat (enc (mid i))), none, none]
  refine s_nx (s_for (K := K) (is := [5]) (xs := l) (ι := fun s => Dat (enc s)) (ts := fun s => [Dat (enc s)]) R (i_lst (x_var rfl)) Pt rfl (fun s _ => .one 5 _) (fun F1 hF1 i s hs F H σ R => ?_) fun F H σ R => ?_)
  · have hil : i < l.length := getElem?_lt hs
    obtain ⟨_, hok, hstep⟩ := hmid i (Nat.le_of_lt hil)
    obtain ⟨hcan, hnext⟩ := hstep s hs
    replace R : RS _ _ F H σ [some (wsP g.ws), some (Dat (osT g.os)), some (Dat (csT g.cs)), some (LstP (l.map fun s => Dat (enc s))), some (Dat (enc (mid i))), some (Dat (enc s)), none] := R
    obtain ⟨x, hx⟩ := step_tail s
    have hsl : ∀ {Ps : Tys}, Ps[5]? = some (some (Dat (enc s))) → EvX (tSl (rSlA K) (tVar 5) (tPart (tC (.int 1))) tNoPart) Ps (Dat (.tup ((numsOf s).map fun (n : Nat) => T.int (n : Int)))) := fun h =>
      x_slD (ts := .str x :: (numsOf s).map fun (n : Nat) => T.int (n : Int)) (x_var (by rw [← hx]; exact h)) (o_some (i := 1) x_int) o_none (cut_from _ 1)
    have hit : isTup (enc s) = true := by cases s <;> rfl
    refine s_ifF R (x_or (b := false) (c := false) ((x_not (x_test (e_isi (x_var (P := Dat (enc s)) rfl) (kit_tuple _)))).cast (by rw [hit]; rfl)) fun _ => (x_not (x_test (e_all (bs := (numsOf s).map fun _ => true) ?_))).cast ?_) rfl fun F H R => s_next ?_
    · rw [List.map_map]
      refine x_lcM (K := K) (is := [6]) (ts := fun (n : Nat) => [Dat (.int (n : Int))]) (i_tupM (f := fun (n : Nat) => T.int (n : Int)) (as := numsOf s) (hsl rfl)) (fun n _ => .one 6 _) (by decide) (sz1 (by cases s <;> exact Nat.le_of_ble_eq_true rfl)) fun n hn => ?_
      exact x_call ((n : Int), 0, 9) trivial (a_cons (x_var rfl) (a_cons x_int (a_cons x_int a_nil))) (by
        have := numsOf_few hg hcan n hn
        show Dat (.bl (decide ((0 : Int) ≤ (n : Int)) && decide ((n : Int) ≤ 9))) = Dat (.bl true)
        rw [decide_eq_true (by omega), decide_eq_true (by omega)]
        rfl)
    · cases s <;> rfl
    refine s_ifF R (x_test (e_ninL (a := s) (as := can g (mid i)) (x_var rfl) (x_call (g.ws, g.cs, mid i) (hok.ok2 hg (by omega) hw) (a_cons (x_var rfl) (a_cons (x_var rfl) (a_cons (x_var rfl) a_nil))) rfl))) (by rw [decide_eq_true hcan]; rfl) fun F H R => s_next ?_
    refine s_asg R (P := Dat (enc (mid (i + 1)))) (by rw [hnext]; exact x_call (g, mid i, s) ⟨hg, ⟨i, by omega, hok⟩, hcan, hw⟩ (a_cons (x_var rfl) (a_cons (x_var rfl) (a_cons (x_var rfl) (a_cons (x_var rfl) a_nil)))) rfl) fun F H σ R => ?_
    exact ⟨F, R.forget 5, trivial⟩
  · refine s_nx (s_ret R (x_var (P := Dat (enc (mid l.length))) rfl) ?_)
    have e : mid l.length = hereOf g l := by show hereOf g (l.take l.length) = _; rw [List.take_length]
    rw [e]
    exact q
/-! _law_is: of like things -/
/-- nested tuples of ints, of depth less than n -/
def IntT : Nat → T → Prop
  | 0, _ => False
  | n + 1, t => (∃ i, t = .int i) ∨ ∃ ts, t = .tup ts ∧ ts.length ≤ 100000 ∧ ∀ u ∈ ts, IntT n u
abbrev IsPre (n : Nat) : T ⊕ List T → Prop
  | .inl t => IntT n t
  | .inr ts => n ≠ 0 ∧ ts.length ≤ 100000 ∧ ∀ u ∈ ts, IntT (n - 1) u
abbrev IsP : T ⊕ List T → Ty
  | .inl t => Dat t
  | .inr ts => LstP (ts.map Dat)
abbrev sp_is (n : Nat) : Sp := SpG (IsPre n) fun t => ([IsP t, IsP t], Dat (.bl true))
theorem kit2 (n : String) {b : Bool} (h1 : kitB n "tuple" = some b) (h2 : b = false → kitB n "list" = some false) : PySem.W.kitAny K (.type n) [.type "tuple", .type "list"] = some b := by
  refine kitAny_cons (kit_ty h1) (fun e => ?_) fun e => e
  subst e
  exact kitAny_cons (kit_ty (h2 rfl)) (fun _ => kitAny_nil) fun e => by cases e
theorem kit2_tup : PySem.W.kitAny K (.type "tuple") [.type "tuple", .type "list"] = some true := kit2 _ (by decide +kernel) fun e => by cases e
theorem kit2_int : PySem.W.kitAny K (.type "int") [.type "tuple", .type "list"] = some false := kit2 _ (by decide +kernel) fun _ => by decide +kernel
theorem kit2_lst : PySem.W.kitAny K (.type "list") [.type "tuple", .type "list"] = some true := by
  refine kitAny_cons (kit_ty (r := false) (by decide +kernel)) (fun _ => ?_) fun e => by cases e
  exact kitAny_cons (kit_ty (r := true) (by decide +kernel)) (fun e => by cases e) fun _ => rfl
theorem zip_self_eq {α : Type} {l : List α} {q : α × α} (h : q ∈ l.zip l) : q.1 = q.2 ∧ q.1 ∈ l := by
  obtain ⟨i, hi⟩ := List.mem_iff_getElem?.mp h
  obtain ⟨h1, h2⟩ := List.getElem?_zip_eq_some.mp hi
  rw [h1] at h2
  exact ⟨Option.some.inj h2, List.mem_of_getElem? h1⟩
theorem all_yes {α : Type} (l : List α) : (l.map fun _ => true).all id = true := by simp
theorem kit1_lst {n : String} {b : Bool} (h : kitB "list" n = some b) : PySem.W.kitOne K (.type "list") (.type n) = some b := kit_ty h
theorem ok__law_is (F : Fun K "_law_is" "_law_is" s_law_is f fd) (B : Bi mg) (hg : mg "_law_is" = some (.ref f)) (hkp : PySem.W.keepIn K (.ref f) = true) (hb : Binds K fd ps_law_is []) : ∀ n, FnOk P w K mg base CX0 (2 + n) f fd ps_law_is (sp_is n)
  | 0 => by
    have no : ∀ i, ¬ IsPre 0 i := fun i h => by
      cases i with
      | inl t => exact h
      | inr ts => exact h.1 rfl
    exact ⟨fun vs H Q E h => (by obtain ⟨i, _, h, _⟩ := h; exact (no i h).elim), fun A outer s H args us vs Q E hr he hb hv h => (by obtain ⟨i, _, h, _⟩ := h; exact (no i h).elim)⟩
  | n + 1 => by
    have G_law_is : GF P w K mg base "_law_is" ps_law_is (2 + n) (sp_is n) f fd := ⟨ok__law_is F B hg hkp hb n, hg, hkp, hb⟩
    refine okG F sc_law_is (fun _ => rfl) fun cdv A outer s H E hr => ⟨_, (pss_cons (ps_if (pt_val (pe_callB (kC (r := rIsiT) (K := K) call_isiT rfl) (by rfl) B.isinstance_ b_isinstance (pa_cons (pv 1) (pa_cons (pe_tup (pa_cons (pe_bltn (v := .ty "tuple") (by rfl) B.tuple_ b_tuple rfl) (pa_cons (pe_bltn (v := .ty "list") (by rfl) B.list_ b_list rfl) pa_nil))) pa_nil))))
  (pss_cons (ps_if (PW.pt (pw_or (pt_cmpR oNeS (pe_callB (kC (r := rIsi) (K := K) call_isi rfl) (by rfl) B.isinstance_ b_isinstance (pa_cons (pv 0) (pa_cons (pe_bltn (v := .ty "tuple") (by rfl) B.tuple_ b_tuple rfl) pa_nil))) (pe_callB (kC (r := rIsi) (K := K) call_isi rfl) (by rfl) B.isinstance_ b_isinstance (pa_cons (pv 1) (pa_cons (pe_bltn (v := .ty "tuple") (by rfl) B.tuple_ b_tuple rfl) pa_nil))) (nomark _)) (pw_or1 (pt_not (pt_val (pe_callB (kC (r := rIsiT) (K := K) call_isiT rfl) (by rfl) B.isinstance_ b_isinstance (pa_cons (pv 0) (pa_cons (pe_tup (pa_cons (pe_bltn (v := .ty "tuple") (by rfl) B.tuple_ b_tuple rfl) (pa_cons (pe_bltn (v := .ty "list") (by rfl) B.list_ b_list rfl) pa_nil))) pa_nil))))))))
  (pss_one (ps_ret pe_bl))
  pss_nil)
  (pss_one (ps_ret (pe_and (pe_cmpR oEqS (pe_callB (kC (r := rLenG) (K := K) cLen rfl) (by rfl) B.len_ b_len (pa_cons (pv 0) pa_nil)) (pe_callB (kC (r := rLenG) (K := K) cLen rfl) (by rfl) B.len_ b_len (pa_cons (pv 1) pa_nil)) (nomark _)) (pe_one (pe_callB (kC (r := rAll) (K := K) (cAll rfl) rfl) (by rfl) B.all_ b_all (pa_cons (pe_lc (own := [("_law_one", 2), ("_law_two", 3)]) rfl sc_law_is.nd (kPI (r := RZ.iZipA) (K := K) (RZ.pi_zipA rfl B.zip_ (pa_cons (pv 0) (pa_cons (pv 1) pa_nil))) rfl) (blkOk_by (N := nm_law_is) (sc := defScope s_law_is) (by decide +kernel)) (fun _ _ _ _ _ => (kPG (K := K) (pg_tup (n := 2) rfl (pgs_cons (pg_name (i := 2) sc_law_is.nd rfl (Or.inl rfl)) (pgs_cons (pg_name (i := 3) sc_law_is.nd rfl (Or.inl rfl)) pgs_nil))) rfl)) (fun _ _ _ _ _ => pts_nil) (fun _ _ _ _ _ => (pe_f G_law_is (hr.mono (Nat.le_refl _)) rfl (pa_cons (pv 2) (pa_cons (pv 3) pa_nil))))) pa_nil)))))))
  pss_nil)
  (pss_one (ps_ret (pe_and (pe_cmpR oEqS (pe_callB (kC (r := rIsi) (K := K) call_isi rfl) (by rfl) B.isinstance_ b_isinstance (pa_cons (pv 0) (pa_cons (pe_bltn (v := .ty "bool") (by rfl) B.bool_ b_bool rfl) pa_nil))) (pe_callB (kC (r := rIsi) (K := K) call_isi rfl) (by rfl) B.isinstance_ b_isinstance (pa_cons (pv 1) (pa_cons (pe_bltn (v := .ty "bool") (by rfl) B.bool_ b_bool rfl) pa_nil))) (nomark _)) (pe_one (pe_cmpR oEqS (pv 0) (pv 1) (nomark _))))))), fun t F vs Q hp R q => ?_⟩
    cases t with
    | inl t =>
      rcases hp with ⟨i, rfl⟩ | ⟨ts, rfl, hl, hts⟩
      · refine s_ifF R (x_test (e_isi2 (P := Dat (.int i)) (n := "int") (x_var rfl) (fun F H v e p => dat_ty e p) kit2_int)) rfl fun F H R => s_next (s_ret R (P := Dat (.bl true)) ((x_andV (e_eqB (e_isi (x_var (P := Dat (.int i)) rfl) (kit_bool _)) (e_isi (x_var (P := Dat (.int i)) rfl) (kit_bool _))) fun _ => e_eqI (x_var (P := Dat (.int i)) rfl) (x_var (P := Dat (.int i)) rfl)).cast ?_) q)
        simp
      · refine s_ifT R (x_test (e_isi2 (P := Dat (.tup ts)) (n := "tuple") (x_var rfl) (fun F H v e p => dat_ty e p) kit2_tup)) rfl fun F H R => ?_
        refine s_ifF R (x_or (b := false) (c := false) ((x_test (e_neB (e_isi (x_var (P := Dat (.tup ts)) rfl) (kit_tuple _)) (e_isi (x_var (P := Dat (.tup ts)) rfl) (kit_tuple _)))).cast (by simp)) fun _ => (x_not (x_test (e_isi2 (P := Dat (.tup ts)) (n := "tuple") (x_var rfl) (fun F H v e p => dat_ty e p) kit2_tup))).cast rfl) rfl fun F H R => s_next (s_ret R (P := Dat (.bl true)) ((x_andV (e_eqI (e_lenD (x_var (P := Dat (.tup ts)) rfl)) (e_lenD (x_var (P := Dat (.tup ts)) rfl))) fun _ => e_all (bs := (ts.zip ts).map fun _ => true) ?_).cast (by rw [all_yes, decide_eq_true rfl]; rfl)) q)
        rw [List.map_map]
        refine x_lcM (K := K) (is := [2, 3]) (xs := ts.zip ts) (ι := fun q => TupP [Dat q.1, Dat q.2]) (ts := fun q => [Dat q.1, Dat q.2]) ?_ (fun q _ => .tup 2 [2, 3] _ rfl rfl) (by decide) (by rw [List.length_zip, sizeLine_eq]; omega) fun q hq => ?_
        · have := i_zipT (K := K) (Ps := _) (ev_untup (x_var (Ps := [some (Dat (.tup ts)), some (Dat (.tup ts)), none, none]) (n := 0) (P := Dat (.tup ts)) rfl)) (ev_untup (x_var (n := 1) (P := Dat (.tup ts)) rfl))
          rw [List.zip_map, List.map_map] at this
          exact this
        · obtain ⟨a, b⟩ := q
          obtain ⟨e1, e2⟩ := zip_self_eq hq
          cases e1
          exact x_call (Sum.inl a) (hts _ e2) (a_cons (x_var rfl) (a_cons (x_var rfl) a_nil)) rfl
    | inr ts =>
      obtain ⟨_, hl, hts⟩ : n + 1 ≠ 0 ∧ ts.length ≤ 100000 ∧ ∀ u ∈ ts, IntT n u := hp
      replace R : RS _ _ F H _ [some (LstP (ts.map Dat)), some (LstP (ts.map Dat)), none, none] := R
      refine s_ifT R (x_test (e_isi2 (P := LstP (ts.map Dat)) (n := "list") (x_var rfl) (fun F H v e p => lst_ty e p) kit2_lst)) rfl fun F H R => ?_
      refine s_ifF R (x_or (b := false) (c := false) ((x_test (e_neB (e_isiL (x_var (P := LstP (ts.map Dat)) rfl) (kit1_lst (b := false) (by decide +kernel))) (e_isiL (x_var (P := LstP (ts.map Dat)) rfl) (kit1_lst (b := false) (by decide +kernel))))).cast (by simp)) fun _ => (x_not (x_test (e_isi2 (P := LstP (ts.map Dat)) (n := "list") (x_var rfl) (fun F H v e p => lst_ty e p) kit2_lst))).cast rfl) rfl fun F H R => s_next (s_ret R (P := Dat (.bl true)) ((x_andV (e_eqI (e_lenL (x_var (P := LstP (ts.map Dat)) rfl)) (e_lenL (x_var (P := LstP (ts.map Dat)) rfl))) fun _ => e_all (bs := (ts.zip ts).map fun _ => true) ?_).cast (by rw [all_yes, decide_eq_true rfl]; rfl)) q)
      rw [List.map_map]
      refine x_lcM (K := K) (is := [2, 3]) (xs := ts.zip ts) (ι := fun q => TupP [Dat q.1, Dat q.2]) (ts := fun q => [Dat q.1, Dat q.2]) ?_ (fun q _ => .tup 2 [2, 3] _ rfl rfl) (by decide) (by rw [List.length_zip, sizeLine_eq]; omega) fun q hq => ?_
      · have := i_zipL (K := K) (x_var (Ps := [some (LstP (ts.map Dat)), some (LstP (ts.map Dat)), none, none]) (n := 0) (P := LstP (ts.map Dat)) rfl) (x_var (n := 1) (P := LstP (ts.map Dat)) rfl)
        rw [List.zip_map, List.map_map] at this
        exact this
      · obtain ⟨a, b⟩ := q
        obtain ⟨e1, e2⟩ := zip_self_eq hq
        cases e1
        exact x_call (Sum.inl a) (hts _ e2) (a_cons (x_var rfl) (a_cons (x_var rfl) a_nil)) rfl
end
end G
namespace G
open PySem PySem.Spec PyProof.Rows L2
open Enc (enc)
abbrev s_law_all : Stmt := top 72
abbrev nm_law_all : List Str := ["_law_wires_here", "_law_owners", "_law_codes", "_law_most", "_law_first_here", "_law_known", "_law_found", "_law_done", "_law_step", "_law_later"]
abbrev ps_law_all : List Str := ["_law_wires_here", "_law_owners", "_law_codes", "_law_most"]
theorem sc_law_all : FnScope nm_law_all ps_law_all (defScope s_law_all) := ⟨rfl, rfl, rfl, by decide +kernel, rfl, by decide +kernel, by decide +kernel⟩
section
variable {P : Program} {w : World} {K : PySem.W.Frag} {mg : Str → Option Value} {base : Heap} {f f1 f2 f3 f4 C : Addr} {fd fd1 fd2 fd3 fd4 : FuncData}
def outsOf (cs : List (List Row)) (fs : List SD) : List Oc := (fs.filter (ended (gOf cs))).map outc
structure EndsPre (fs : List SD) (cs : List (List Row)) : Prop where
  few : fs.length ≤ 250
  cfew : cs.length ≤ 1000
  sfew : ∀ sd ∈ fs, sd.ss ≠ [] ∧ sd.ss.length ≤ 1000
abbrev sp_law_ends : Sp := SpG (fun i : List SD × List (List Row) => EndsPre i.1 i.2) fun i => ([LstP (i.1.map fun sd => Dat (enc sd)), Dat (csT i.2)], LstP ((srt (once (outsOf i.2 i.1))).map fun o => Dat (enc o)))
theorem ok__law_ends (F : Fun K "_law_ends" "_law_ends" s_law_ends f fd) (B : Bi mg) (G_law_ended : GF P w K mg base "_law_ended" ps_law_ended 3 sp_law_ended f1 fd1) : FnOk P w K mg base CX0 4 f fd ps_law_ends sp_law_ends := by
  refine okG F sc_law_ends (fun _ => rfl) fun cdv A outer s H E hr => ⟨_, (pss_cons (ps_setLc (i := 2) (own := [("_law_here", 3)]) rfl sc_law_ends.nd rfl rfl (sw_true rfl rfl rfl (by decide +kernel)) (kPI (r := iList) (K := K) (pi_list (pv 0)) rfl) (blkOk_by (N := nm_law_ends) (sc := defScope s_law_ends) (by decide +kernel)) (fun _ _ _ _ _ => (pg_name (i := 3) sc_law_ends.nd rfl (Or.inl rfl))) (fun _ _ _ _ _ => (pts_one (pt_val (pe_f G_law_ended (hr.mono (by decide)) rfl (pa_cons (pv 3) (pa_cons (pv 1) pa_nil)))))) (fun _ _ _ _ _ => (pe_callTy (kC (r := rTupOf) (K := K) cTup rfl) (by rfl) B.tuple_ b_tuple (pa_cons (pe_lc (own := [("_law_state", 4)]) rfl sc_law_ends.nd (kPI (r := iTup) (K := K) (pi_tup (pe_ix (kIx (r := rIxT) (K := K) ix_tup rfl) (pv 3) pe_int (fun _ _ => rfl))) rfl) (blkOk_in (N := nm_law_ends) (s0 := defScope s_law_ends) rfl (by decide +kernel)) (fun _ _ _ _ _ => (pg_name (i := 4) sc_law_ends.nd rfl (Or.inl rfl))) (fun _ _ _ _ _ => pts_nil) (fun _ _ _ _ _ => (pe_ix (kIx (r := rIxT) (K := K) ix_tup rfl) (pv 4) pe_int (fun _ _ => rfl)))) pa_nil))))
  (pss_one (ps_ret (pe_callB (cSortSet rfl (ru65 (hr.mono (by decide)))) (by rfl) B.sorted_ b_sorted (pa_cons (pe_callTy (cMkSet rfl (ru65 (hr.mono (by decide)))) (by rfl) B.set_ b_set (pa_cons (pv 2) pa_nil)) pa_nil))))), fun i F vs Q hp R q => ?_⟩
  obtain ⟨fs, cs⟩ := i
  obtain ⟨h1, h2, h3⟩ : EndsPre fs cs := hp
  refine s_asgS R (P := LstP ((outsOf cs fs).map fun o => Dat (enc o))) ?_ fun F H σ R => s_ret R (P := LstP ((srt (once (outsOf cs fs))).map fun o => Dat (enc o))) (e_sortSet (e_mkSet (x_var rfl) ?_) ?_) q
  · unfold outsOf
    rw [List.map_map]
    refine x_lc (K := K) (is := [3]) (xs := fs) (ι := fun sd => Dat (enc sd)) (ts := fun sd => [Dat (enc sd)]) (b := ended (gOf cs)) (i_lst (x_var rfl)) (fun sd _ => .one 3 _) (by decide) (sz1 (by omega)) (fun sd hsd => ?_) fun sd hsd he => ?_
    · exact x_test (x_call (sd, cs) h2 (a_cons (x_var rfl) (a_cons (x_var rfl) a_nil)) rfl)
    · refine (e_tupOfD (ts := (outc sd).map enc) ?_)
      unfold outc
      rw [List.map_map, List.map_map]
      refine x_lcM (K := K) (is := [4]) (xs := sd.ss) (ι := fun m => Dat (enc m)) (ts := fun m => [Dat (enc m)]) (i_tupM (f := enc) (as := sd.ss) (x_ixC (n := 0) (ts := [enc sd.ss, enc sd.ls]) (x_var rfl) rfl)) (fun m _ => .one 4 _) (by decide) (sz1 (by have := (h3 sd hsd).2; omega)) fun m _ => ?_
      exact m_at (n := 3) (m := m) (x_var rfl) rfl
  · show ((fs.filter _).map outc).length ≤ 250
    rw [List.length_map]
    exact Nat.le_trans (List.length_filter_le _ _) h1
  · intro o ho
    obtain ⟨sd, hsd, rfl⟩ := List.mem_map.mp ho
    have := (h3 sd (List.mem_filter.mp hsd).1).1
    intro z
    exact this (List.map_eq_nil_iff.mp z)
/-! _law_all -/
def condB (g : PG) (k : Nat) : Bool := decide (k < (bfs g k).fs.length) && decide ((bfs g k).fs.length ≤ 250)
def stopF (g : PG) : Nat → Nat → Nat
  | 0, k => k
  | n + 1, k => if condB g k = true then stopF g n (k + 1) else k
/-- where the search stands still -/
def stopK (g : PG) : Nat := stopF g 251 0
theorem stopF_eq {g : PG} : ∀ (n k0 k : Nat), k0 ≤ k → k - k0 < n → (∀ j, k0 ≤ j → j < k → condB g j = true) → condB g k = false → stopF g n k0 = k
  | 0, _, _, _, h, _, _ => absurd h (Nat.not_lt_zero _)
  | n + 1, k0, k, h1, h2, h3, h4 => by
    unfold stopF
    by_cases e : k0 = k
    · subst e; rw [if_neg (by rw [h4]; exact Bool.false_ne_true)]
    · rw [if_pos (h3 k0 (Nat.le_refl _) (by omega))]
      exact stopF_eq n (k0 + 1) k (by omega) (by omega) (fun j a b => h3 j (by omega) b) h4
def allOf (g : PG) : List SD := (bfs g (stopK g)).fs
structure AllPre (g : PG) : Prop where
  gok : PGOk g
  wfew : g.ws.length ≤ 1000
theorem sd_key (sd : SD) : Ky (enc sd) := ⟨⟨_, rfl⟩, by rw [key_dep]; exact Nat.le_trans (Enc.dep_le sd) (by decide)⟩
/-- the steps of one standing, at most so many -/
theorem can_few {g : PG} {sd : SD} : (can g sd).length ≤ g.cs.length + g.ws.length := by
  unfold can
  rw [List.length_append, List.length_map, List.length_map]
  have h1 := List.length_filter_le (runs g sd.ss) (List.range g.cs.length)
  have h2 := List.length_filter_le (fun q : (Nat × Nat) × List Put => decide (0 < q.2.length)) (g.ws.zip sd.ls)
  rw [List.length_range] at h1
  rw [List.length_zip] at h2
  omega
theorem fold_len (g : PG) (i : Nat) (here : SD) : ∀ (l : List Step) (b : Bf), (l.foldl (add1 g i here) b).fs.length ≤ b.fs.length + l.length
  | [], b => Nat.le_refl _
  | s :: l, b => by
    have h1 := fold_len g i here l (add1 g i here b s)
    have h2 : (add1 g i here b s).fs.length ≤ b.fs.length + 1 := by
      unfold add1
      split
      · omega
      · simp
    show (l.foldl (add1 g i here) (add1 g i here b s)).fs.length ≤ _
    rw [List.length_cons]
    omega
def midB (g : PG) (i t : Nat) : Bf := ((can g (sdAt (bfs g i) i)).take t).foldl (add1 g i (sdAt (bfs g i) i)) (bfs g i)
theorem midB0 (g : PG) (i : Nat) : midB g i 0 = bfs g i := rfl
theorem midB_all (g : PG) (i : Nat) : midB g i (can g (sdAt (bfs g i) i)).length = bfs g (i + 1) := by unfold midB; rw [List.take_length]; rfl
theorem midB_succ {g : PG} {i t : Nat} {s : Step} (h : (can g (sdAt (bfs g i) i))[t]? = some s) : midB g i (t + 1) = add1 g i (sdAt (bfs g i) i) (midB g i t) s := by
  unfold midB
  rw [List.take_add_one, h, List.foldl_append]
  rfl
abbrev kvT (fs : List SD) : List (T × Ty) := fs.map fun sd => (enc sd, Dat (.bl true))
abbrev fsT (fs : List SD) : List Ty := fs.map fun sd => Dat (enc sd)
abbrev sp_law_all : Sp := SpG (fun g : PG => AllPre g) fun g => ([wsP g.ws, Dat (osT g.os), Dat (csT g.cs), Dat (.int 250)], LstP (fsT (allOf g)))
theorem ok__law_all (F : Fun K "_law_all" "_law_all" s_law_all f fd) (B : Bi mg) (G_law_first : GF P w K mg base "_law_first" ps_law_first 3 sp_law_first f1 fd1) (G_law_can : GF P w K mg base "_law_can" ps_law_can 4 sp_law_can f2 fd2)
    (G_law_behind : GF P w K mg base "_law_behind" ps_law_behind 5 sp_law_behind f3 fd3) : FnOk P w K mg base CX0 6 f fd ps_law_all sp_law_all := by
  refine okG F sc_law_all (fun _ => rfl) fun cdv A outer s H E hr => ⟨_, (pss_cons (ps_set (i := 4) sc_law_all.nd rfl (Or.inl rfl) (pe_f G_law_first (hr.mono (by decide)) rfl (pa_cons (pv 0) (pa_cons (pv 1) (pa_cons (pv 2) pa_nil)))))
  (pss_cons (ps_set (i := 5) sc_law_all.nd rfl (Or.inl rfl) (pe_dispN (ru65 (hr.mono (by decide))) (pv 4) pe_bl))
  (pss_cons (ps_set (i := 6) sc_law_all.nd rfl (Or.inl rfl) (pe_lst (pa_cons (pv 4) pa_nil)))
  (pss_cons (ps_set (i := 7) sc_law_all.nd rfl (Or.inl rfl) pe_int)
  (pss_cons (ps_while PassesOwn.never (PW.pt (pw_and (pt_cmpR oLtI (pv 7) (pe_callB (kC (r := rLenG) (K := K) cLen rfl) (by rfl) B.len_ b_len (pa_cons (pv 6) pa_nil)) (nomark _)) (pw_and1 (pt_cmpR oLeI (pe_callB (kC (r := rLenG) (K := K) cLen rfl) (by rfl) B.len_ b_len (pa_cons (pv 6) pa_nil)) (pv 3) (nomark _)))))
  (pss_cons (ps_for PassesOwn.never rfl (kPI (r := iList) (K := K) (pi_list (pe_f G_law_can (hr.mono (by decide)) rfl (pa_cons (pv 0) (pa_cons (pv 2) (pa_cons (pe_ix (kIx (r := rIxL) (K := K) ix_list rfl) (pv 6) (pv 7) (fun _ _ => rfl)) pa_nil))))) rfl) (pg_name (i := 8) sc_law_all.nd rfl (Or.inl rfl))
  (pss_cons (ps_set (i := 9) sc_law_all.nd rfl (Or.inl rfl) (pe_f G_law_behind (hr.mono (by decide)) rfl (pa_cons (pv 0) (pa_cons (pv 2) (pa_cons (pe_ix (kIx (r := rIxL) (K := K) ix_list rfl) (pv 6) (pv 7) (fun _ _ => rfl)) (pa_cons (pv 8) pa_nil))))))
  (pss_one (ps_if (pt_cmpR (oNinN (ru65 (hr.mono (by decide)))) (pv 9) (pv 5) rfl)
  (pss_cons (ps_asg pe_bl (pg_sub (pv 5) (pv 9) (set_dictN (ru65 (hr.mono (by decide))))))
  (pss_one (ps_expr (pe_bm PySem.F.plainAttrs_list PySem.F.slot_list_append PySem.F.type_list_append mt_append (pv 6) (pa_cons (pv 9) pa_nil)))))
  pss_nil))))
  (pss_one (ps_set (i := 7) sc_law_all.nd rfl (Or.inl rfl) (pe_op oAddI (pv 7) pe_int)))))
  (pss_one (ps_ret (pv 6)))))))), fun g F vs Q hp R q => ?_⟩
  obtain ⟨hg, hw⟩ : AllPre g := hp
  have h4 := hg.n4
  have h3 := hg.o3
  replace q : ∀ v F' H', Gr F H F' H' → (LstP (fsT (allOf g))).p F' v → Q v H' := q
  refine s_asgS R (P := Dat (enc (first g))) (x_call g ⟨by omega, by omega, hw⟩ (a_cons (x_var rfl) (a_cons (x_var rfl) (a_cons (x_var rfl) a_nil))) rfl) fun F H σ R => ?_
  refine so_dispS (P0 := P) (w := w) (t := enc (first g)) (P := Dat (.bl true)) R (x_var rfl) (sd_key _) x_bl fun d F H σ gd hd R od => ?_
  refine so_lstS (Qs := fsT [first g]) R (a_cons (x_var rfl) a_nil) (big2 (by show 1 ≤ _; omega)) fun l F H σ gl hl R ol => ?_
  replace od := od.step gl
  refine g_asgS R (P := Dat (.int 0)) x_int fun F H σ g0 R => ?_
  replace od := od.step g0
  replace ol := ol.step g0
  let Pt : Nat → Tys := fun i => [some (wsP g.ws), some (Dat (osT g.os)), some (Dat (csT g.cs)), some (Dat (.int 250)), some (Dat (enc (first g))), some (Vl (.ref d)), some (Vl (.ref l)), some (Dat (.int (i : Int))), none, none]
  have R' : RS _ _ F H σ (Pt 0) := R
  clear R
  refine so_whileS (n := 251) (fun i σ H' => ∃ F', RS _ _ F' H' σ (Pt i) ∧ OpL l F' H' (fsT (bfs g i).fs) ∧ OpD P w d F' H' (kvT (bfs g i).fs) ∧ ∀ j, j < i → condB g j = true) (condB g) ⟨F, R', ol, od, fun j hj => absurd hj (Nat.not_lt_zero _)⟩ ?_ ?_ ?_
  · rintro i σ H ⟨F, R, ol, od, hc⟩ Q q
    have ht : EvT (tAnd (tTest (tOp rLtI (tVar 7) (tCB (rLenG K) (tCons (tVar 6) tNil)))) (tTest (tOp rLeI (tCB (rLenG K) (tCons (tVar 6) tNil)) (tVar 3)))) ((Pt i).set 6 (some (LstP (fsT (bfs g i).fs)))) (condB g i) :=
      (x_and (x_test (e_lt (x_var rfl) (e_lenL (Qs := fsT (bfs g i).fs) (x_var rfl)))) fun _ => x_test (e_le (e_lenL (Qs := fsT (bfs g i).fs) (x_var rfl)) (x_var rfl))).cast (by
        rw [List.length_map]
        unfold condB
        congr 1 <;> exact decide_eq_decide.mpr (by omega))
    exact now_t ht R.fh ((slots_now R).know (j := 6) rfl (ol.now R.fh)) fun H' g' => q H' ⟨F, R.step g', ol.step g', od.step g', hc⟩
  · rintro i σ H ⟨F, R, ol, od, hc⟩ hci
    obtain ⟨hlt, hle⟩ : i < (bfs g i).fs.length ∧ (bfs g i).fs.length ≤ 250 := by
      unfold condB at hci
      rw [Bool.and_eq_true, decide_eq_true_eq, decide_eq_true_eq] at hci
      exact hci
    refine ⟨by omega, ?_⟩
    have hb : BfOk g (bfs g i) := bfs_ok hg i fun j hj => by
      have := hc j hj
      unfold condB at this
      rw [Bool.and_eq_true, decide_eq_true_eq] at this
      exact this.1
    have hget : (bfs g i).fs[i]? = some (sdAt (bfs g i) i) := by
      unfold sdAt
      rw [List.getD_eq_getElem?_getD, List.getElem?_eq_getElem hlt]
      rfl
    have hok : SDOk g i (sdAt (bfs g i) i) := hb.ok i _ hget
    have hcl := can_few (g := g) (sd := sdAt (bfs g i) i)
    refine s_forIp (K := K) (is := [8]) (xs := can g (sdAt (bfs g i) i)) (ι := fun s => Dat (enc s)) (ts := fun s => [Dat (enc s)]) R (i_lstO (xo_at (C := fun F H => OpL l F H (fsT (bfs g i).fs)) (xo_call (g.ws, g.cs, sdAt (bfs g i) i) (hok.ok2 hg (by omega) hw) (ao_cons (fun _ _ _ _ o g => o.step g) (xo (x_var rfl)) (ao_cons (fun _ _ _ _ o g => o.step g) (xo (x_var rfl)) (ao_cons (fun _ _ _ _ o g => o.step g) (xo_ixL (l := l) (Qs := fsT (bfs g i).fs) (n := i) (fun _ _ _ _ o g => o.step g) (fun _ _ o => o) (x_var rfl) (x_var rfl) (by rw [List.getElem?_map, hget]; rfl)) ao_nil))) rfl) R ol))
      (fun _ => Pt i) (fun t F H => OpL l F H (fsT (midB g i t).fs) ∧ OpD P w d F H (kvT (midB g i t).fs)) rfl ⟨ol, od⟩ (fun s _ => .one 8 _) (fun t F H F' H' o g => ⟨o.1.step g, o.2.step g⟩) (fun F1 hF1 t s hs F H σ R o => ?_) fun F H σ R o => ?_
    · obtain ⟨ol, od⟩ := o
      have htl : t < (can g (sdAt (bfs g i) i)).length := getElem?_lt hs
      have hmem := List.mem_of_getElem? hs
      have hext : Ext (bfs g i) (midB g i t) := fold_ext g i _ _ _
      have hfl : (midB g i t).fs.length ≤ 250 + (g.cs.length + g.ws.length) := by
        have := fold_len g i (sdAt (bfs g i) i) ((can g (sdAt (bfs g i) i)).take t) (bfs g i)
        rw [List.length_take] at this
        unfold midB
        omega
      replace R : RS _ _ F H σ ((Pt i).set 8 (some (Dat (enc s)))) := R
      refine so_asgS (C := fun F H => OpL l F H (fsT (midB g i t).fs)) R ol (P := Dat (enc (behind g (sdAt (bfs g i) i) s))) (xo_call (g, sdAt (bfs g i) i, s) ⟨hg, ⟨i, by omega, hok⟩, hmem, hw⟩ (ao_cons (fun _ _ _ _ o g => o.step g) (xo (x_var rfl)) (ao_cons (fun _ _ _ _ o g => o.step g) (xo (x_var rfl)) (ao_cons (fun _ _ _ _ o g => o.step g) (xo_ixL (l := l) (Qs := fsT (midB g i t).fs) (n := i) (fun _ _ _ _ o g => o.step g) (fun _ _ o => o) (x_var rfl) (x_var rfl) (by rw [List.getElem?_map, hext.get hget]; rfl)) (ao_cons (fun _ _ _ _ o g => o.step g) (xo (x_var rfl)) ao_nil)))) rfl) fun F H σ g1 R => ?_
      replace ol := ol.step g1
      replace od := od.step g1
      have hne : l ≠ d := ol.ne_d od
      have hk : ((kvT (midB g i t).fs).map fun q => q.1.key) = (midB g i t).fs.map fun sd => (enc sd).key := by rw [List.map_map]; rfl
      refine so_if R ((slots_now R).know (j := 5) rfl (od.now R.fh)) (x_test (e_ninN (kvs := kvT (midB g i t).fs) (t := enc (behind g (sdAt (bfs g i) i) s)) (x_var rfl) (sd_key _) (x_var rfl))) (fun hb F H g2 R => ?_) fun hb F H g2 R => ?_
      · have hn : behind g (sdAt (bfs g i) i) s ∉ (midB g i t).fs := fun z => by
          rw [hk, decide_eq_true (mem_key.mpr z)] at hb
          cases hb
        have e : midB g i (t + 1) = ⟨(midB g i t).fs ++ [behind g (sdAt (bfs g i) i) s], (midB g i t).ws ++ [some (i, s)]⟩ := by
          rw [midB_succ hs]
          unfold add1
          rw [if_neg hn]
        refine so_setDS (P := Dat (.bl true)) R (od.step g2) hd x_bl (x_var rfl) (x_var rfl) (sd_key _) (by rw [hk]; exact fun z => hn (mem_key.mp z)) (by rw [List.length_map]; omega) fun F H g3 R od => ?_
        refine so_append R ((ol.step g2).stepE (by rw [List.mem_singleton]; exact hne) g3) hl (x_var rfl) (x_var (P := Dat (enc (behind g (sdAt (bfs g i) i) s))) rfl) (by rw [List.length_map, sizeLine_eq]; omega) fun F H g4 R ol => ?_
        refine ⟨F, (R.forget 8).forget 9, ?_, ?_⟩
        · show OpL l F H (fsT (midB g i (t + 1)).fs)
          rw [e]
          show OpL l F H (List.map _ ((midB g i t).fs ++ [behind g (sdAt (bfs g i) i) s]))
          rw [List.map_append]
          exact ol
        · show OpD P w d F H (kvT (midB g i (t + 1)).fs)
          rw [e]
          show OpD P w d F H (List.map _ ((midB g i t).fs ++ [behind g (sdAt (bfs g i) i) s]))
          rw [List.map_append]
          exact od.stepE (by rw [List.mem_singleton]; exact fun z => hne z.symm) g4
      · have hn : behind g (sdAt (bfs g i) i) s ∈ (midB g i t).fs := Classical.byContradiction fun z => by
          rw [hk, decide_eq_false (fun y => z (mem_key.mp y))] at hb
          cases hb
        have e : midB g i (t + 1) = midB g i t := by
          rw [midB_succ hs]
          unfold add1
          rw [if_pos hn]
        refine s_next ⟨F, (R.forget 8).forget 9, ?_⟩
        show OpL l F H (fsT (midB g i (t + 1)).fs) ∧ OpD P w d F H (kvT (midB g i (t + 1)).fs)
        rw [e]
        exact ⟨ol.step g2, od.step g2⟩
    · obtain ⟨ol, od⟩ := o
      rw [midB_all] at ol od
      refine g_asg R (P := Dat (.int ((i + 1 : Nat) : Int))) ((e_add (x_var rfl) x_int).cast (by rw [Int.natCast_add]; rfl)) fun F H σ g0 R => ⟨F, R, ol.step g0, od.step g0, fun j hj => ?_⟩
      by_cases e : j = i
      · rw [e]; exact hci
      · exact hc j (by omega)
  · rintro i σ H ⟨F, R, ol, od, hc⟩ hci
    have hi : i < 251 := by
      rcases Nat.eq_zero_or_pos i with z | z
      · omega
      · have := hc (i - 1) (by omega)
        unfold condB at this
        rw [Bool.and_eq_true, decide_eq_true_eq, decide_eq_true_eq] at this
        omega
    have e : stopK g = i := stopF_eq 251 0 i (Nat.zero_le _) (by omega) (fun j _ hj => hc j hj) hci
    have e2 : allOf g = (bfs g i).fs := by unfold allOf; rw [e]
    rw [e2] at q
    exact so_retL R ol hl (x_var rfl) q
end
end G
namespace G
open PySem PySem.Spec PyProof.Rows L2
open Enc (enc)
abbrev s_Standing_init : Stmt := inClass (top 33) 0
abbrev nm_Standing_init : List Str := ["self", "web", "program", "states", "letters"]
abbrev ps_Standing_init : List Str := ["self", "web", "program", "states", "letters"]
theorem sc_Standing_init : FnScope nm_Standing_init ps_Standing_init (defScope s_Standing_init) := ⟨rfl, rfl, rfl, by decide +kernel, rfl, by decide +kernel, by decide +kernel⟩
abbrev s_Standing_key : Stmt := inClass (top 33) 1
abbrev nm_Standing_key : List Str := ["self", "machines", "state"]
abbrev ps_Standing_key : List Str := ["self"]
theorem sc_Standing_key : FnScope nm_Standing_key ps_Standing_key (defScope s_Standing_key) := ⟨rfl, rfl, rfl, by decide +kernel, rfl, by decide +kernel, by decide +kernel⟩
abbrev s_Standing_is_everywhere : Stmt := inClass (top 33) 2
abbrev nm_Standing_is_everywhere : List Str := ["self", "machine", "state", "put"]
abbrev ps_Standing_is_everywhere : List Str := ["self", "machine"]
theorem sc_Standing_is_everywhere : FnScope nm_Standing_is_everywhere ps_Standing_is_everywhere (defScope s_Standing_is_everywhere) := ⟨rfl, rfl, rfl, by decide +kernel, rfl, by decide +kernel, by decide +kernel⟩
abbrev s_Standing_word : Stmt := inClass (top 33) 3
abbrev nm_Standing_word : List Str := ["self", "machine", "state", "code", "waits"]
abbrev ps_Standing_word : List Str := ["self", "machine"]
theorem sc_Standing_word : FnScope nm_Standing_word ps_Standing_word (defScope s_Standing_word) := ⟨rfl, rfl, rfl, by decide +kernel, rfl, by decide +kernel, by decide +kernel⟩
abbrev s_Standing_can : Stmt := inClass (top 33) 4
abbrev nm_Standing_can : List Str := ["self", "found", "machine", "full", "wire", "puts"]
abbrev ps_Standing_can : List Str := ["self"]
theorem sc_Standing_can : FnScope nm_Standing_can ps_Standing_can (defScope s_Standing_can) := ⟨rfl, rfl, rfl, by decide +kernel, rfl, by decide +kernel, by decide +kernel⟩
abbrev s_Standing_is_ended : Stmt := inClass (top 33) 5
abbrev nm_Standing_is_ended : List Str := ["self", "machine"]
abbrev ps_Standing_is_ended : List Str := ["self"]
theorem sc_Standing_is_ended : FnScope nm_Standing_is_ended ps_Standing_is_ended (defScope s_Standing_is_ended) := ⟨rfl, rfl, rfl, by decide +kernel, rfl, by decide +kernel, by decide +kernel⟩
abbrev s_Standing_outcome : Stmt := inClass (top 33) 6
abbrev nm_Standing_outcome : List Str := ["self", "state"]
abbrev ps_Standing_outcome : List Str := ["self"]
theorem sc_Standing_outcome : FnScope nm_Standing_outcome ps_Standing_outcome (defScope s_Standing_outcome) := ⟨rfl, rfl, rfl, by decide +kernel, rfl, by decide +kernel, by decide +kernel⟩
def webNs : List Str := ["machines", "wires"]
def progNs : List Str := ["owners", "codes"]
def stdNs : List Str := ["web", "program", "states", "letters"]
abbrev webF (g : PG) : Flds := [("machines", Dat (.int (g.cs.length : Int))), ("wires", wsP g.ws)]
abbrev progF (g : PG) : Flds := [("owners", Dat (osT g.os)), ("codes", Dat (csT g.cs))]
/-- the addresses of the classes -/
structure CA where
  st : Addr
  web : Addr
  prog : Addr
  std : Addr
  srch : Addr
abbrev webP (c : CA) (g : PG) : Ty := InsP c.web (webF g)
abbrev progP (c : CA) (g : PG) : Ty := InsP c.prog (progF g)
abbrev ssP (c : CA) (ss : List MS) : Ty := TupP (ss.map fun m => stP c.st m)
abbrev stdF (c : CA) (g : PG) (sd : SD) : Flds := [("web", webP c g), ("program", progP c g), ("states", ssP c sd.ss), ("letters", Dat (enc sd.ls))]
abbrev stdP (c : CA) (g : PG) (sd : SD) : Ty := InsP c.std (stdF c g sd)
structure Own4 (K : PySem.W.Frag) (c : CA) : Prop where
  st : OwnC K c.st stNs
  web : OwnC K c.web webNs
  prog : OwnC K c.prog progNs
  std : OwnC K c.std stdNs
/-- what a standing must be to be handled -/
structure StOk (g : PG) (sd : SD) : Prop where
  gok : PGOk g
  wfew : g.ws.length ≤ 1000
  ok : ∃ k, k ≤ 40000 ∧ SDOk g k sd
section
variable {P : Program} {w : World} {K : PySem.W.Frag} {mg : Str → Option Value} {base : Heap} {f f1 f2 f3 f4 : Addr} {fd fd1 fd2 fd3 fd4 : FuncData} {c : CA}
abbrev sp_Standing_init (c : CA) : Sp := SpN c.std (fun _ : PG × SD => True) fun i => ([webP c i.1, progP c i.1, ssP c i.2.ss, Dat (enc i.2.ls)], stdP c i.1 i.2)
theorem ok_Standing_init (F : Fun K "__init__" "Standing.__init__" s_Standing_init f fd) (O : Own4 K c) : FnOk P w K mg base CX0 3 f fd ps_Standing_init (sp_Standing_init c) := by
  refine okN F sc_Standing_init (fun _ => rfl) fun cdv A outer s H E hr => ⟨_, (pss_cons (ps_fld (pv 0) (pv 1) rfl)
  (pss_cons (ps_fld (pv 0) (pv 2) rfl)
  (pss_cons (ps_fld (pv 0) (pv 3) rfl)
  (pss_one (ps_fld (pv 0) (pv 4) rfl))))), fun i F vs Q x _ R o q => ?_⟩
  obtain ⟨g, sd⟩ := i
  have h0 : hid H x x = none := hid_same
  refine s_fld R o h0 (x_var rfl) (x_var (P := webP c g) rfl) O.std (by decide +kernel) (of_decide_eq_true rfl) fun F H R o => ?_
  refine s_fld R o h0 (x_var rfl) (x_var (P := progP c g) rfl) O.std (by decide +kernel) (of_decide_eq_true rfl) fun F H R o => ?_
  refine s_fld R o h0 (x_var rfl) (x_var (P := ssP c sd.ss) rfl) O.std (by decide +kernel) (of_decide_eq_true rfl) fun F H R o => ?_
  refine s_fld R o h0 (x_var rfl) (x_var (P := Dat (enc sd.ls)) rfl) O.std (by decide +kernel) (of_decide_eq_true rfl) fun F H R o => ?_
  obtain ⟨F', h1, h2, h3⟩ := o.done R.gr h0
  exact q F' H h1 h3
/-! reading -/
section
variable {Ps : Tys} {ta tb te : TE} {g : PG} {sd : SD} {m : MS} {i : Nat}
theorem f_ss (O : Own4 K c) (h : EvX ta Ps (stdP c g sd)) : EvX (tFld K ta "states") Ps (ssP c sd.ss) := x_fld h O.std (by decide +kernel) rfl
theorem f_ls (O : Own4 K c) (h : EvX ta Ps (stdP c g sd)) : EvX (tFld K ta "letters") Ps (Dat (enc sd.ls)) := x_fld h O.std (by decide +kernel) rfl
theorem f_web (O : Own4 K c) (h : EvX ta Ps (stdP c g sd)) : EvX (tFld K ta "web") Ps (webP c g) := x_fld h O.std (by decide +kernel) rfl
theorem f_prog (O : Own4 K c) (h : EvX ta Ps (stdP c g sd)) : EvX (tFld K ta "program") Ps (progP c g) := x_fld h O.std (by decide +kernel) rfl
theorem f_wires (O : Own4 K c) (h : EvX ta Ps (webP c g)) : EvX (tFld K ta "wires") Ps (wsP g.ws) := x_fld h O.web (by decide +kernel) rfl
theorem f_machines (O : Own4 K c) (h : EvX ta Ps (webP c g)) : EvX (tFld K ta "machines") Ps (Dat (.int (g.cs.length : Int))) := x_fld h O.web (by decide +kernel) rfl
theorem f_codes (O : Own4 K c) (h : EvX ta Ps (progP c g)) : EvX (tFld K ta "codes") Ps (Dat (csT g.cs)) := x_fld h O.prog (by decide +kernel) rfl
theorem f_owners (O : Own4 K c) (h : EvX ta Ps (progP c g)) : EvX (tFld K ta "owners") Ps (Dat (osT g.os)) := x_fld h O.prog (by decide +kernel) rfl
theorem e_stAt (h : EvX ta Ps (ssP c sd.ss)) (hb : EvX tb Ps (Dat (.int (i : Int)))) (hi : i < sd.ss.length) : EvX (tOp (rIxT K) ta tb) Ps (stP c.st (msAt sd i)) :=
  x_ixP h hb (by
    unfold msAt
    rw [List.getElem?_map, List.getD_eq_getElem?_getD, List.getElem?_eq_getElem hi]
    rfl)
theorem e_ssLen (h : EvX ta Ps (ssP c sd.ss)) : EvX (tCB (rLenG K) (tCons ta tNil)) Ps (Dat (.int (sd.ss.length : Int))) := by
  have := e_len (K := K) h
  rw [List.length_map] at this
  exact this
theorem f_row (O : Own4 K c) (h : EvX ta Ps (stP c.st m)) : EvX (tFld K ta "row") Ps (Dat (.int (m.row : Int))) := x_fld h O.st (by decide +kernel) rfl
theorem f_told (O : Own4 K c) (h : EvX ta Ps (stP c.st m)) : EvX (tFld K ta "told") Ps (Dat (enc m.told)) := x_fld h O.st (by decide +kernel) rfl
theorem f_diary (O : Own4 K c) (h : EvX ta Ps (stP c.st m)) : EvX (tFld K ta "diary") Ps (Dat (enc m.diary)) := x_fld h O.st (by decide +kernel) rfl
theorem i_ss (h : EvX ta Ps (ssP c sd.ss)) : EvI (iTup K ta) Ps (sd.ss.map fun m => stP c.st m) := i_tup h
end
/-! key -/
abbrev SK := List MK × List (List Put)
abbrev sp_key (c : CA) : Sp := SpG (fun i : PG × SD => StOk i.1 i.2) fun i => ([stdP c i.1 i.2], Dat (enc i.2.k))
theorem StOk.few {g : PG} {sd : SD} (h : StOk g sd) : sd.ss.length ≤ 4 := by
  obtain ⟨k, _, hk⟩ := h.ok
  rw [hk.len]
  exact h.gok.n4
theorem so_fin {l : Addr} {F0 H0 F H : Hp} {σ : L2.St} {Ps : Tys} {Qs : List Ty} {j : Nat} (R : RS F0 H0 F H σ Ps) (o : OpL l F H Qs) (h0 : H0 l = none) (hj : Ps[j]? = some (some (Vl (.ref l)))) : ∃ F', RS F0 H0 F' H σ (Ps.set j (some (LstP Qs))) := by
  obtain ⟨F', h1, h2, h3⟩ := o.done R.gr h0
  have R' : RS F0 H0 F' H σ Ps := ⟨h1, R.sl.up h2⟩
  exact ⟨F', R'.know hj h3⟩
theorem ok_key (F : Fun K "key" "Standing.key" s_Standing_key f fd) (B : Bi mg) (O : Own4 K c) : FnOk P w K mg base CX0 3 f fd ps_Standing_key (sp_key c) := by
  refine okG F sc_Standing_key (fun _ => rfl) fun cdv A outer s H E hr => ⟨_, (pss_cons (ps_set (i := 1) sc_Standing_key.nd rfl (Or.inl rfl) (pe_lst pa_nil))
  (pss_cons (ps_for PassesOwn.never rfl (kPI (r := iTup) (K := K) (pi_tup (kPF (K := K) (pe_fld (pv 0) rfl) rfl)) rfl) (pg_name (i := 2) sc_Standing_key.nd rfl (Or.inl rfl))
  (pss_one (ps_expr (pe_bm PySem.F.plainAttrs_list PySem.F.slot_list_append PySem.F.type_list_append mt_append (pv 1) (pa_cons (pe_tup (pa_cons (kPF (K := K) (pe_fld (pv 2) rfl) rfl) (pa_cons (kPF (K := K) (pe_fld (pv 2) rfl) rfl) (pa_cons (kPF (K := K) (pe_fld (pv 2) rfl) rfl) (pa_cons (kPF (K := K) (pe_fld (pv 2) rfl) rfl) (pa_cons (kPF (K := K) (pe_fld (pv 2) rfl) rfl) (pa_cons (kPF (K := K) (pe_fld (pv 2) rfl) rfl) pa_nil))))))) pa_nil)))))
  (pss_one (ps_ret (pe_tup (pa_cons (pe_callTy (kC (r := rTupOf) (K := K) cTup rfl) (by rfl) B.tuple_ b_tuple (pa_cons (pv 1) pa_nil)) (pa_cons (kPF (K := K) (pe_fld (pv 0) rfl) rfl) pa_nil))))))), fun i F vs Q hp R q => ?_⟩
  obtain ⟨g, sd⟩ := i
  have hp' : StOk g sd := hp
  have hfew := hp'.few
  replace q : ∀ v F' H', Gr F H F' H' → (Dat (enc sd.k)).p F' v → Q v H' := q
  refine so_lstS (Qs := []) R a_nil (Nat.zero_le _) fun l F H σ gl hl R ol => ?_
  let Pt : Nat → Tys := fun _ => [some (stdP c g sd), some (Vl (.ref l)), none]
  have R' : RS _ _ F H σ (Pt 0) := R
  clear R
  refine s_forI (K := K) (is := [2]) (xs := sd.ss) (ι := fun m => stP c.st m) (ts := fun m => [stP c.st m]) R' (i_ss (f_ss O (x_var rfl))) Pt (fun i F H => OpL l F H ((sd.ss.take i).map fun m => Dat (enc m.k))) rfl ol (fun m _ => .one 2 _) (fun i F H F' H' o g => o.step g) (fun F1 hF1 i m hi F H σ R ol => ?_) fun F H σ R ol => ?_
  · replace R : RS _ _ F H σ [some (stdP c g sd), some (Vl (.ref l)), some (stP c.st m)] := R
    refine so_append (P := Dat (enc m.k)) R ol hl (x_var rfl) ?_ ?_ fun F H g1 R ol => ⟨F, R.forget 2, ?_⟩
    · refine x_tupD (ts := [enc m.row, enc m.regs, enc m.kept, enc m.told, enc m.diary, enc m.fault]) ?_ (big (by show 6 ≤ _; decide))
      exact a_cons (x_fld (x_var (P := stP c.st m) rfl) O.st (by decide +kernel) rfl) (a_cons (x_fld (x_var (P := stP c.st m) rfl) O.st (by decide +kernel) rfl) (a_cons (x_fld (x_var (P := stP c.st m) rfl) O.st (by decide +kernel) rfl) (a_cons (x_fld (x_var (P := stP c.st m) rfl) O.st (by decide +kernel) rfl) (a_cons (x_fld (x_var (P := stP c.st m) rfl) O.st (by decide +kernel) rfl) (a_cons (x_fld (x_var (P := stP c.st m) rfl) O.st (by decide +kernel) rfl) a_nil)))))
    · rw [List.length_map, List.length_take, sizeLine_eq]; omega
    · show OpL l F H ((sd.ss.take (i + 1)).map fun m => Dat (enc m.k))
      rw [List.take_add_one, hi, List.map_append]
      exact ol
  · rw [List.take_length] at ol
    obtain ⟨F', R2⟩ := so_fin (j := 1) R ol hl rfl
    refine s_nx (s_ret R2 (x_tupD (ts := [enc (sd.ss.map MS.k), enc sd.ls]) (a_cons ?_ (a_cons (f_ls O (x_var rfl)) a_nil)) (big (by show 2 ≤ _; decide))) q)
    refine e_tupOfD (ts := (sd.ss.map MS.k).map enc) ?_
    rw [List.map_map, List.map_map]
    exact x_var rfl
end
end G
namespace G
open PySem PySem.Spec PyProof.Rows L2
open Enc (enc)
section
variable {P : Program} {w : World} {K : PySem.W.Frag} {mg : Str → Option Value} {base : Heap} {f f1 f2 f3 f4 : Addr} {fd fd1 fd2 fd3 fd4 : FuncData} {c : CA}
/-- o knows all that m has put -/
def knows (m o : MS) : Bool := (m.diary.map fun p => decide (p ∈ o.diary)).all id
theorem every_knows {ss : List MS} {m : MS} : everywhere ss m = ss.all (knows m) := by
  rw [Bool.eq_iff_iff]
  unfold everywhere knows
  simp only [List.all_eq_true, List.mem_map, decide_eq_true_eq, id_eq]
  constructor
  · rintro h o ho b ⟨p, hp, rfl⟩
    exact decide_eq_true (h p hp o ho)
  · intro h p hp o ho
    exact of_decide_eq_true (h o ho _ ⟨p, hp, rfl⟩)
abbrev sp_is_everywhere (c : CA) : Sp := SpG (fun i : PG × SD × Nat => StOk i.1 i.2.1 ∧ i.2.2 < i.1.cs.length) fun i => ([stdP c i.1 i.2.1, Dat (.int (i.2.2 : Int))], Dat (.bl (everywhere i.2.1.ss (msAt i.2.1 i.2.2))))
theorem ok_is_everywhere (F : Fun K "is_everywhere" "Standing.is_everywhere" s_Standing_is_everywhere f fd) (B : Bi mg) (O : Own4 K c) : FnOk P w K mg base CX0 3 f fd ps_Standing_is_everywhere (sp_is_everywhere c) := by
  refine okG F sc_Standing_is_everywhere (fun _ => rfl) fun cdv A outer s H E hr => ⟨_, (pss_cons (ps_for PassesOwn.never rfl (kPI (r := iTup) (K := K) (pi_tup (kPF (K := K) (pe_fld (pv 0) rfl) rfl)) rfl) (pg_name (i := 2) sc_Standing_is_everywhere.nd rfl (Or.inr rfl))
  (pss_one (ps_if (pt_not (pt_val (pe_callB (kC (r := rAll) (K := K) (cAll rfl) rfl) (by rfl) B.all_ b_all (pa_cons (pe_lc (own := [("put", 3)]) rfl sc_Standing_is_everywhere.nd (kPI (r := iTup) (K := K) (pi_tup (kPF (K := K) (pe_fld (pe_ix (kIx (r := rIxT) (K := K) ix_tup rfl) (kPF (K := K) (pe_fld (pv 0) rfl) rfl) (pv 1) (fun _ _ => rfl)) rfl) rfl)) rfl) (blkOk_by (N := nm_Standing_is_everywhere) (sc := defScope s_Standing_is_everywhere) (by decide +kernel)) (fun _ _ _ _ _ => (pg_name (i := 3) sc_Standing_is_everywhere.nd rfl (Or.inl rfl))) (fun _ _ _ _ _ => pts_nil) (fun _ _ _ _ _ => (pe_cmpR (kOp (r := rInT) (K := K) (oInT (ru65 (hr.mono (by decide)))) rfl) (pv 3) (kPF (K := K) (pe_fld (pv 2) rfl) rfl) rfl))) pa_nil))))
  (pss_one (ps_ret pe_bl))
  pss_nil)))
  (pss_one (ps_ret pe_bl))), fun i F vs Q hp R q => ?_⟩
  obtain ⟨g, sd, i⟩ := i
  obtain ⟨⟨hg, hw, k, hk, hok⟩, hi⟩ : StOk g sd ∧ i < g.cs.length := hp
  replace q : ∀ v F' H', Gr F H F' H' → (Dat (.bl (everywhere sd.ss (msAt sd i)))).p F' v → Q v H' := q
  rw [every_knows] at q
  have hil : i < sd.ss.length := by rw [hok.len]; exact hi
  have hd : (msAt sd i).diary.length ≤ 40000 := Nat.le_trans (hok.at_ hi).2.diary hk
  let Pt : Nat → Tys := fun _ => [some (stdP c g sd), some (Dat (.int (i : Int))), none, none]
  refine s_forI (K := K) (is := [2]) (xs := sd.ss) (ι := fun m => stP c.st m) (ts := fun m => [stP c.st m]) R (i_ss (f_ss O (x_var rfl))) Pt (fun j F H => ∀ t m, t < j → sd.ss[t]? = some m → knows (msAt sd i) m = true) rfl (fun t m h => absurd h (Nat.not_lt_zero _)) (fun m _ => .one 2 _) (fun _ _ _ _ _ o _ => o) (fun F1 hF1 j m hj F H σ R hI => ?_) fun F H σ R hI => ?_
  · replace R : RS _ _ F H σ [some (stdP c g sd), some (Dat (.int (i : Int))), some (stP c.st m), none] := R
    refine s_if R (b := !knows (msAt sd i) m) (x_not (x_test (e_all (bs := (msAt sd i).diary.map fun p => decide (p ∈ m.diary)) ?_))) (fun hb F H R => s_ret R (P := Dat (.bl (sd.ss.all (knows (msAt sd i))))) ?_ fun v F' H' gr => q v F' H' (hF1 _ _ gr)) fun hb F H R => ?_
    · rw [List.map_map]
      refine x_lcM (K := K) (is := [3]) (xs := (msAt sd i).diary) (ts := fun p => [Dat (enc p)]) (i_tupM (f := enc) (f_diary O (e_stAt (f_ss O (x_var rfl)) (x_var rfl) hil))) (fun p _ => .one 3 _) (by decide) (sz1 (by omega)) fun p _ => ?_
      exact e_inT (a := p) (as := m.diary) (x_var rfl) (f_diary O (x_var rfl))
    · have : sd.ss.all (knows (msAt sd i)) = false := by
        rw [Bool.eq_false_iff]
        intro z
        rw [List.all_eq_true] at z
        rw [z m (List.mem_of_getElem? hj)] at hb
        cases hb
      rw [this]
      exact x_bl
    · refine s_next ⟨F, R.forget 2, fun t m' ht hm' => ?_⟩
      by_cases e : t = j
      · subst e
        rw [hj] at hm'
        cases hm'
        cases z : knows (msAt sd i) m with
        | true => rfl
        | false => rw [z] at hb; cases hb
      · exact hI t m' (by omega) hm'
  · have : sd.ss.all (knows (msAt sd i)) = true := by
      rw [List.all_eq_true]
      intro m hm
      obtain ⟨t, ht⟩ := List.mem_iff_getElem?.mp hm
      exact hI t m (getElem?_lt ht) ht
    rw [this] at q
    exact s_nx (s_ret R x_bl q)
/-! word -/
def wordAt (g : PG) (sd : SD) (i : Nat) : Str := wordW (msAt sd i) (codeOf g i) (if (decide ((msAt sd i).row < (codeOf g i).length) && decide (rowAt (codeOf g i) (msAt sd i).row = .rest)) = true then everywhere sd.ss (msAt sd i) else true)
theorem word_runs {g : PG} {sd : SD} {i : Nat} (h : (msAt sd i).row ≤ (codeOf g i).length) : decide (wordAt g sd i = "runs") = runs g sd.ss i := by
  have n1 : ((("fault" : Str)) = "runs") = False := eq_false (by decide +kernel)
  have n2 : ((("end" : Str)) = "runs") = False := eq_false (by decide +kernel)
  have n3 : ((("rests" : Str)) = "runs") = False := eq_false (by decide +kernel)
  unfold wordAt wordW runs
  show _ = if ((msAt sd i).fault || decide ((msAt sd i).row = (codeOf g i).length)) = true then false else if rowAt (codeOf g i) (msAt sd i).row = .rest then everywhere sd.ss (msAt sd i) else true
  by_cases h1 : (msAt sd i).fault = true
  · rw [if_pos h1, decide_eq_false (by rw [n1]; exact id), h1]; rfl
  · rw [if_neg h1]
    have h1' : (msAt sd i).fault = false := by simpa using h1
    by_cases h2 : (msAt sd i).row = (codeOf g i).length
    · rw [if_pos h2, decide_eq_false (by rw [n2]; exact id), decide_eq_true h2, Bool.or_true]; rfl
    · rw [if_neg h2, decide_eq_false h2, h1', if_neg (show ¬ ((false || false) = true) from by decide), decide_eq_true (show (msAt sd i).row < (codeOf g i).length by omega), Bool.true_and]
      by_cases h3 : rowAt (codeOf g i) (msAt sd i).row = .rest
      · rw [decide_eq_true h3, if_pos rfl, if_pos h3]
        cases he : everywhere sd.ss (msAt sd i) with
        | true => rw [if_neg (fun z => by cases z.2)]; exact decide_eq_true rfl
        | false => rw [if_pos ⟨h3, rfl⟩, decide_eq_false (by rw [n3]; exact id)]
      · rw [decide_eq_false h3, if_neg Bool.false_ne_true, if_neg (fun z => by cases z.2), if_neg h3]
        exact decide_eq_true rfl
theorem word_end {g : PG} {sd : SD} {i : Nat} : decide (wordAt g sd i = "end") = endedM (codeOf g i) (msAt sd i) := by
  have n1 : ((("fault" : Str)) = "end") = False := eq_false (by decide +kernel)
  have n2 : ((("runs" : Str)) = "end") = False := eq_false (by decide +kernel)
  have n3 : ((("rests" : Str)) = "end") = False := eq_false (by decide +kernel)
  unfold wordAt wordW endedM
  by_cases h1 : (msAt sd i).fault = true
  · rw [if_pos h1, decide_eq_false (by rw [n1]; exact id), h1]; rfl
  · rw [if_neg h1]
    have h1' : (msAt sd i).fault = false := by simpa using h1
    rw [h1']
    by_cases h2 : (msAt sd i).row = (codeOf g i).length
    · rw [if_pos h2, decide_eq_true h2]; exact decide_eq_true rfl
    · rw [if_neg h2, decide_eq_false h2]
      refine decide_eq_false fun z => ?_
      split at z
      all_goals split at z
      · exact n3.mp z
      · exact n2.mp z
      · exact n3.mp z
      · exact n2.mp z
abbrev sp_word (c : CA) : Sp := SpG (fun i : PG × SD × Nat => StOk i.1 i.2.1 ∧ i.2.2 < i.1.cs.length) fun i => ([stdP c i.1 i.2.1, Dat (.int (i.2.2 : Int))], Dat (.str (wordAt i.1 i.2.1 i.2.2)))
theorem ok_word (F : Fun K "word" "Standing.word" s_Standing_word f fd) (B : Bi mg) (O : Own4 K c) (M_Standing_is_everywhere : GM P w K mg base c.std "is_everywhere" ps_Standing_is_everywhere 3 (sp_is_everywhere c) f1 fd1) (G_word_of : GF P w K mg base "word_of" ps_word_of 3 (sp_word_of c.st) f2 fd2) :
    FnOk P w K mg base CX0 4 f fd ps_Standing_word (sp_word c) := by
  refine okG F sc_Standing_word (fun _ => rfl) fun cdv A outer s H E hr => ⟨_, (pss_cons (ps_set (i := 2) sc_Standing_word.nd rfl (Or.inl rfl) (pe_ix (kIx (r := rIxT) (K := K) ix_tup rfl) (kPF (K := K) (pe_fld (pv 0) rfl) rfl) (pv 1) (fun _ _ => rfl)))
  (pss_cons (ps_set (i := 3) sc_Standing_word.nd rfl (Or.inl rfl) (pe_ix (kIx (r := rIxT) (K := K) ix_tup rfl) (kPF (K := K) (pe_fld (kPF (K := K) (pe_fld (pv 0) rfl) rfl) rfl) rfl) (pv 1) (fun _ _ => rfl)))
  (pss_cons (ps_set (i := 4) sc_Standing_word.nd rfl (Or.inl rfl) (pe_and (pe_cmpR oLtI (kPF (K := K) (pe_fld (pv 2) rfl) rfl) (pe_callB (kC (r := rLenG) (K := K) cLen rfl) (by rfl) B.len_ b_len (pa_cons (pv 3) pa_nil)) (nomark _)) (pe_one (pe_cmpR (kOp (r := rEqD) (K := K) (op_eqD (ru64 (hr.mono (by decide)))) rfl) (pe_ix (kIx (r := rIxT) (K := K) ix_tup rfl) (pv 3) (kPF (K := K) (pe_fld (pv 2) rfl) rfl) (fun _ _ => rfl)) (pe_tup (pa_cons pe_str pa_nil)) (nomark _)))))
  (pss_one (ps_ret (pe_f G_word_of (hr.mono (by decide)) rfl (pa_cons (pv 2) (pa_cons (pv 3) (pa_cons (pe_ifExp (pt_val (pv 4)) (pe_m M_Standing_is_everywhere (hr.mono (by decide)) (pv 0) (pa_cons (pv 1) pa_nil)) pe_bl) pa_nil))))))))), fun i F vs Q hp R q => ?_⟩
  obtain ⟨g, sd, i⟩ := i
  have hp' : StOk g sd ∧ i < g.cs.length := hp
  obtain ⟨⟨hg, hw, k, hk, hok⟩, hi⟩ := hp'
  have hil : i < sd.ss.length := by rw [hok.len]; exact hi
  have hrow : (msAt sd i).row ≤ (codeOf g i).length := (hok.at_ hi).2.row
  refine s_asgS R (P := stP c.st (msAt sd i)) (e_stAt (f_ss O (x_var rfl)) (x_var rfl) hil) fun F H σ R => ?_
  refine s_asgS R (P := Dat (codeT (codeOf g i))) (e_code (f_codes O (f_prog O (x_var rfl))) (x_var rfl) hi) fun F H σ R => ?_
  refine s_asgS R (P := Dat (.bl (decide ((msAt sd i).row < (codeOf g i).length) && decide (rowAt (codeOf g i) (msAt sd i).row = .rest)))) ?_ fun F H σ R => ?_
  · have e1 : decide ((msAt sd i).row < (codeOf g i).length) = decide (((msAt sd i).row : Int) < ((codeOf g i).length : Int)) := decide_eq_decide.mpr (by omega)
    rw [e1]
    exact x_andV (e_lt (f_row O (x_var rfl)) (e_codeLen (x_var rfl))) fun h => e_isRest (e_rowAt (x_var rfl) (f_row O (x_var rfl)) (by have := of_decide_eq_true h; omega))
  · refine s_ret R (x_call (P := Dat (.str (wordAt g sd i))) (msAt sd i, codeOf g i, if (decide ((msAt sd i).row < (codeOf g i).length) && decide (rowAt (codeOf g i) (msAt sd i).row = .rest)) = true then everywhere sd.ss (msAt sd i) else true) hrow (a_cons (x_var rfl) (a_cons (x_var rfl) (a_cons (x_ifE (x_test (x_var rfl)) (fun h => ?_) fun h => ?_) a_nil))) rfl) q
    · show EvX _ _ (Dat (.bl (if _ then _ else _)))
      rw [if_pos h]
      exact x_meth (g, sd, i) ⟨⟨hg, hw, k, hk, hok⟩, hi⟩ (x_var (P := stdP c g sd) rfl) rfl (a_cons (x_var rfl) a_nil) rfl rfl
    · show EvX _ _ (Dat (.bl (if _ then _ else _)))
      rw [if_neg (by rw [h]; exact Bool.false_ne_true)]
      exact x_bl
/-! can, is_ended, outcome -/
theorem StOk.row {g : PG} {sd : SD} {i : Nat} (h : StOk g sd) (hi : i < g.cs.length) : (msAt sd i).row ≤ (codeOf g i).length := by
  obtain ⟨k, _, hok⟩ := h.ok
  exact (hok.at_ hi).2.row
theorem StOk.len {g : PG} {sd : SD} (h : StOk g sd) : sd.ss.length = g.cs.length := by
  obtain ⟨k, _, hok⟩ := h.ok
  exact hok.len
theorem StOk.msOk {g : PG} {sd : SD} {i : Nat} (h : StOk g sd) (hi : i < g.cs.length) : ∃ k, k ≤ 40000 ∧ MSOk g k i (msAt sd i) := by
  obtain ⟨k, hk, hok⟩ := h.ok
  exact ⟨k, hk, (hok.at_ hi).2⟩
abbrev sp_can (c : CA) : Sp := SpG (fun i : PG × SD => StOk i.1 i.2) fun i => ([stdP c i.1 i.2], LstP ((can i.1 i.2).map fun s => Dat (enc s)))
theorem ok_can (F : Fun K "can" "Standing.can" s_Standing_can f fd) (B : Bi mg) (O : Own4 K c) (M_Standing_word : GM P w K mg base c.std "word" ps_Standing_word 4 (sp_word c) f1 fd1) : FnOk P w K mg base CX0 5 f fd ps_Standing_can (sp_can c) := by
  refine okG F sc_Standing_can (fun _ => rfl) fun cdv A outer s H E hr => ⟨_, (pss_cons (ps_setLc (i := 1) (own := [("machine", 2)]) rfl sc_Standing_can.nd rfl rfl (sw_true rfl rfl rfl (by decide +kernel)) (pi_range1 rfl B.range_ (pa_cons (pe_callB (kC (r := rLenG) (K := K) cLen rfl) (by rfl) B.len_ b_len (pa_cons (kPF (K := K) (pe_fld (pv 0) rfl) rfl) pa_nil)) pa_nil)) (blkOk_by (N := nm_Standing_can) (sc := defScope s_Standing_can) (by decide +kernel)) (fun _ _ _ _ _ => (pg_name (i := 2) sc_Standing_can.nd rfl (Or.inl rfl))) (fun _ _ _ _ _ => (pts_one (pt_cmpR oEqS (pe_m M_Standing_word (hr.mono (by decide)) (pv 0) (pa_cons (pv 2) pa_nil)) pe_str (nomark _)))) (fun _ _ _ _ _ => (pe_tup (pa_cons pe_str (pa_cons (pv 2) pa_nil)))))
  (pss_cons (ps_setLc (i := 3) (own := [("wire", 4), ("puts", 5)]) rfl sc_Standing_can.nd rfl rfl (sw_true rfl rfl rfl (by decide +kernel)) (kPI (r := RZ.iZipA) (K := K) (RZ.pi_zipA rfl B.zip_ (pa_cons (kPF (K := K) (pe_fld (kPF (K := K) (pe_fld (pv 0) rfl) rfl) rfl) rfl) (pa_cons (kPF (K := K) (pe_fld (pv 0) rfl) rfl) pa_nil))) rfl) (blkOk_by (N := nm_Standing_can) (sc := defScope s_Standing_can) (by decide +kernel)) (fun _ _ _ _ _ => (kPG (K := K) (pg_tup (n := 2) rfl (pgs_cons (pg_name (i := 4) sc_Standing_can.nd rfl (Or.inl rfl)) (pgs_cons (pg_name (i := 5) sc_Standing_can.nd rfl (Or.inl rfl)) pgs_nil))) rfl)) (fun _ _ _ _ _ => (pts_one (pt_cmpR oGtI (pe_callB (kC (r := rLenG) (K := K) cLen rfl) (by rfl) B.len_ b_len (pa_cons (pv 5) pa_nil)) pe_int (nomark _)))) (fun _ _ _ _ _ => (pv 4)))
  (pss_one (ps_ret (pe_op op_cat (pv 1) (pe_lc (own := [("wire", 4)]) rfl sc_Standing_can.nd (kPI (r := iList) (K := K) (pi_list (pv 3)) rfl) (blkOk_by (N := nm_Standing_can) (sc := defScope s_Standing_can) (by decide +kernel)) (fun _ _ _ _ _ => (pg_name (i := 4) sc_Standing_can.nd rfl (Or.inl rfl))) (fun _ _ _ _ _ => pts_nil) (fun _ _ _ _ _ => (pe_op (kOp (r := rCatA) (K := K) op_catA rfl) (pe_tup (pa_cons pe_str pa_nil)) (pv 4))))))))), fun i F vs Q hp R q => ?_⟩
  obtain ⟨g, sd⟩ := i
  have hp' : StOk g sd := hp
  have hln := hp'.len
  have h4 := hp'.gok.n4
  have hw := hp'.wfew
  replace q : ∀ v F' H', Gr F H F' H' → (LstP ((can g sd).map fun s => Dat (enc s))).p F' v → Q v H' := q
  have hcan : ((can g sd).map fun s => Dat (enc s)) = ((((List.range g.cs.length).filter (runs g sd.ss)).map Step.act).map fun s => Dat (enc s)) ++ ((((g.ws.zip sd.ls).filter fun q => decide (0 < q.2.length)).map fun q => Step.come q.1.1 q.1.2).map fun s => Dat (enc s)) := by
    rw [← List.map_append]
    rfl
  rw [hcan] at q
  refine s_asgS R (P := LstP ((((List.range g.cs.length).filter (runs g sd.ss)).map Step.act).map fun s => Dat (enc s))) ?_ fun F H σ R => ?_
  · rw [← x_filterMap]
    refine x_lc (K := K) (is := [2]) (ts := fun (k : Nat) => [Dat (.int (k : Int))]) (b := runs g sd.ss) (i_range (n := g.cs.length) (a_cons (by rw [← hln]; exact e_ssLen (f_ss O (x_var rfl))) a_nil) (by omega)) (fun k _ => .one 2 _) (by decide) (sz1 (by rw [List.length_range]; omega)) (fun k hk => ?_) fun k hk _ => ?_
    · have hk' := List.mem_range.mp hk
      rw [← word_runs (hp'.row hk')]
      exact x_test (e_eqS (x_meth (g, sd, k) ⟨hp', hk'⟩ (x_var (P := stdP c g sd) rfl) rfl (a_cons (x_var rfl) a_nil) rfl rfl) x_str)
    · exact x_tupD (ts := [.str "do", .int (k : Int)]) (a_cons x_str (a_cons (x_var rfl) a_nil)) (big (by show 2 ≤ _; decide))
  refine s_asgS R (P := LstP (((g.ws.zip sd.ls).filter fun q => decide (0 < q.2.length)).map fun q => Dat (enc q.1))) ?_ fun F H σ R => ?_
  · refine x_lc (K := K) (is := [4, 5]) (α := (Nat × Nat) × List Put) (ts := fun q => [Dat (enc q.1), Dat (enc q.2)]) (b := fun q => decide (0 < q.2.length)) (i_zipZ (f := enc) (g := enc) (as := g.ws) (bs := sd.ls) (f_wires O (f_web O (x_var (P := stdP c g sd) rfl))) (f_ls O (x_var (P := stdP c g sd) rfl))) (fun q _ => .tup 2 [4, 5] _ rfl rfl) (by decide) (sz1 (by rw [List.length_zip]; omega)) (fun q _ => ?_) fun q _ _ => x_var rfl
    exact (x_test (e_gt (e_lenE (as := q.2) (x_var rfl)) x_int)).cast (decide_eq_decide.mpr (by omega))
  have l1 := List.length_filter_le (runs g sd.ss) (List.range g.cs.length)
  have l2 := List.length_filter_le (fun q : (Nat × Nat) × List Put => decide (0 < q.2.length)) (g.ws.zip sd.ls)
  rw [List.length_range] at l1
  rw [List.length_zip] at l2
  refine s_ret R (x_catL (x_var rfl) ?_ ?_) q
  · rw [← x_filterMap (fun q : (Nat × Nat) × List Put => decide (0 < q.2.length)) fun q => Step.come q.1.1 q.1.2]
    refine x_lcM (K := K) (is := [4]) (α := (Nat × Nat) × List Put) (xs := (g.ws.zip sd.ls).filter fun q => decide (0 < q.2.length)) (ι := fun q => Dat (enc q.1)) (ts := fun q => [Dat (enc q.1)]) (i_lst (x_var rfl)) (fun q _ => .one 4 _) (by decide) (sz1 (by omega)) fun q _ => ?_
    exact x_catD (ts := [.str "come"]) (us := [enc q.1.1, enc q.1.2]) (x_tupD (a_cons x_str a_nil) (big (by show 1 ≤ _; decide))) (x_var rfl) (big (by show 3 ≤ _; decide))
  · rw [List.length_map, List.length_map, List.length_map, List.length_map]
    exact big (by omega)
theorem ended_eq {g : PG} {sd : SD} (h : sd.ss.length = g.cs.length) : ended g sd = ((List.range g.cs.length).map fun i => endedM (codeOf g i) (msAt sd i)).all id := by
  have e : (List.range g.cs.length).map (fun i => endedM (codeOf g i) (msAt sd i)) = (sd.ss.zip g.cs).map fun q => endedM q.2 q.1 := by
    refine List.ext_getElem? fun i => ?_
    rw [List.getElem?_map, List.getElem?_map]
    by_cases hi : i < g.cs.length
    · rw [List.getElem?_range hi]
      have h1 : (sd.ss.zip g.cs)[i]? = some (msAt sd i, codeOf g i) := List.getElem?_zip_eq_some.mpr ⟨by
        unfold msAt
        rw [List.getD_eq_getElem?_getD, List.getElem?_eq_getElem (by rw [h]; exact hi)]
        rfl, code_at hi⟩
      rw [h1]
      rfl
    · rw [List.getElem?_eq_none (by rw [List.length_range]; omega), List.getElem?_eq_none (by rw [List.length_zip]; omega)]
      rfl
  rw [e, List.all_map]
  rfl
abbrev sp_is_ended (c : CA) : Sp := SpG (fun i : PG × SD => StOk i.1 i.2) fun i => ([stdP c i.1 i.2], Dat (.bl (ended i.1 i.2)))
theorem ok_is_ended (F : Fun K "is_ended" "Standing.is_ended" s_Standing_is_ended f fd) (B : Bi mg) (O : Own4 K c) (M_Standing_word : GM P w K mg base c.std "word" ps_Standing_word 4 (sp_word c) f1 fd1) : FnOk P w K mg base CX0 5 f fd ps_Standing_is_ended (sp_is_ended c) := by
  refine okG F sc_Standing_is_ended (fun _ => rfl) fun cdv A outer s H E hr => ⟨_, (pss_one (ps_ret (pe_callB (kC (r := rAll) (K := K) (cAll rfl) rfl) (by rfl) B.all_ b_all (pa_cons (pe_lc (own := [("machine", 1)]) rfl sc_Standing_is_ended.nd (pi_range1 rfl B.range_ (pa_cons (pe_callB (kC (r := rLenG) (K := K) cLen rfl) (by rfl) B.len_ b_len (pa_cons (kPF (K := K) (pe_fld (pv 0) rfl) rfl) pa_nil)) pa_nil)) (blkOk_by (N := nm_Standing_is_ended) (sc := defScope s_Standing_is_ended) (by decide +kernel)) (fun _ _ _ _ _ => (pg_name (i := 1) sc_Standing_is_ended.nd rfl (Or.inl rfl))) (fun _ _ _ _ _ => pts_nil) (fun _ _ _ _ _ => (pe_cmpR oEqS (pe_m M_Standing_word (hr.mono (by decide)) (pv 0) (pa_cons (pv 1) pa_nil)) pe_str (nomark _)))) pa_nil)))), fun i F vs Q hp R q => ?_⟩
  obtain ⟨g, sd⟩ := i
  have hp' : StOk g sd := hp
  have hln := hp'.len
  have h4 := hp'.gok.n4
  replace q : ∀ v F' H', Gr F H F' H' → (Dat (.bl (ended g sd))).p F' v → Q v H' := q
  rw [ended_eq hln] at q
  refine s_ret R (e_all ?_) q
  rw [List.map_map]
  refine x_lcM (K := K) (is := [1]) (xs := List.range g.cs.length) (ts := fun (k : Nat) => [Dat (.int (k : Int))]) (i_range (n := g.cs.length) (a_cons (by rw [← hln]; exact e_ssLen (f_ss O (x_var rfl))) a_nil) (by omega)) (fun k _ => .one 1 _) (by decide) (sz1 (by rw [List.length_range]; omega)) fun k hk => ?_
  have hk' := List.mem_range.mp hk
  refine EvX.cast (e_eqS (x_meth (g, sd, k) ⟨hp', hk'⟩ (x_var (P := stdP c g sd) rfl) rfl (a_cons (x_var rfl) a_nil) rfl rfl) x_str) ?_
  show Dat (.bl (decide (wordAt g sd k = "end"))) = _
  rw [word_end]
  rfl
abbrev sp_outcome (c : CA) : Sp := SpG (fun i : PG × SD => StOk i.1 i.2) fun i => ([stdP c i.1 i.2], Dat (enc (outc i.2)))
theorem ok_outcome (F : Fun K "outcome" "Standing.outcome" s_Standing_outcome f fd) (B : Bi mg) (O : Own4 K c) : FnOk P w K mg base CX0 3 f fd ps_Standing_outcome (sp_outcome c) := by
  refine okG F sc_Standing_outcome (fun _ => rfl) fun cdv A outer s H E hr => ⟨_, (pss_one (ps_ret (pe_callTy (kC (r := rTupOf) (K := K) cTup rfl) (by rfl) B.tuple_ b_tuple (pa_cons (pe_lc (own := [("state", 1)]) rfl sc_Standing_outcome.nd (kPI (r := iTup) (K := K) (pi_tup (kPF (K := K) (pe_fld (pv 0) rfl) rfl)) rfl) (blkOk_by (N := nm_Standing_outcome) (sc := defScope s_Standing_outcome) (by decide +kernel)) (fun _ _ _ _ _ => (pg_name (i := 1) sc_Standing_outcome.nd rfl (Or.inl rfl))) (fun _ _ _ _ _ => pts_nil) (fun _ _ _ _ _ => (kPF (K := K) (pe_fld (pv 1) rfl) rfl))) pa_nil)))), fun i F vs Q hp R q => ?_⟩
  obtain ⟨g, sd⟩ := i
  have hp' : StOk g sd := hp
  have hfew := hp'.few
  refine s_ret R (e_tupOfD (ts := (outc sd).map enc) ?_) q
  unfold outc
  rw [List.map_map, List.map_map]
  refine x_lcM (K := K) (is := [1]) (xs := sd.ss) (ι := fun m => stP c.st m) (ts := fun m => [stP c.st m]) (i_ss (f_ss O (x_var rfl))) (fun m _ => .one 1 _) (by decide) (sz1 (by omega)) fun m _ => ?_
  exact f_told O (x_var rfl)
end
end G
namespace G
open PySem PySem.Spec PyProof.Rows L2
open Enc (enc)
abbrev s_Standing_with_state : Stmt := inClass (top 33) 7
abbrev nm_Standing_with_state : List Str := ["self", "machine", "state", "put", "letters", "wire", "puts"]
abbrev ps_Standing_with_state : List Str := ["self", "machine", "state", "put"]
theorem sc_Standing_with_state : FnScope nm_Standing_with_state ps_Standing_with_state (defScope s_Standing_with_state) := ⟨rfl, rfl, rfl, by decide +kernel, rfl, by decide +kernel, by decide +kernel⟩
abbrev s_Standing_done : Stmt := inClass (top 33) 8
abbrev nm_Standing_done : List Str := ["self", "machine", "state", "told", "many", "put"]
abbrev ps_Standing_done : List Str := ["self", "machine"]
theorem sc_Standing_done : FnScope nm_Standing_done ps_Standing_done (defScope s_Standing_done) := ⟨rfl, rfl, rfl, by decide +kernel, rfl, by decide +kernel, by decide +kernel⟩
abbrev s_Standing_came : Stmt := inClass (top 33) 9
abbrev nm_Standing_came : List Str := ["self", "wire", "at", "put", "letters", "here", "state"]
abbrev ps_Standing_came : List Str := ["self", "wire"]
theorem sc_Standing_came : FnScope nm_Standing_came ps_Standing_came (defScope s_Standing_came) := ⟨rfl, rfl, rfl, by decide +kernel, rfl, by decide +kernel, by decide +kernel⟩
abbrev s_Standing_behind : Stmt := inClass (top 33) 10
abbrev nm_Standing_behind : List Str := ["self", "step"]
abbrev ps_Standing_behind : List Str := ["self", "step"]
theorem sc_Standing_behind : FnScope nm_Standing_behind ps_Standing_behind (defScope s_Standing_behind) := ⟨rfl, rfl, rfl, by decide +kernel, rfl, by decide +kernel, by decide +kernel⟩
abbrev s_first_standing : Stmt := top 34
abbrev nm_first_standing : List Str := ["web", "program", "states", "code"]
abbrev ps_first_standing : List Str := ["web", "program"]
theorem sc_first_standing : FnScope nm_first_standing ps_first_standing (defScope s_first_standing) := ⟨rfl, rfl, rfl, by decide +kernel, rfl, by decide +kernel, by decide +kernel⟩
section
variable {P : Program} {w : World} {K : PySem.W.Frag} {mg : Str → Option Value} {base : Heap} {f f1 f2 f3 f4 : Addr} {fd fd1 fd2 fd3 fd4 : FuncData} {c : CA}
theorem e_tupOfT {Ps : Tys} {te : TE} {Qs : List Ty} (h : EvX te Ps (TupP Qs)) : EvX (tCB (rTupOf K) (tCons te tNil)) Ps (TupP Qs) :=
  x_cb (a_cons h a_nil) fun F H vs e p Q q => by
    cases p with
    | cons p1 p2 =>
      cases p2
      obtain ⟨a, xs, rfl, h1, h2⟩ := p1
      exact ⟨a, xs, rfl, .inr ⟨SqT.of (e _ _ h1), q _ F H (.refl e) ⟨a, xs, rfl, h1, h2⟩⟩⟩
def putT1 : Option Put → T
  | none => .non
  | some p => enc p
def withS (g : PG) (sd : SD) (i : Nat) (m : MS) (po : Option Put) : SD := ⟨sd.ss.set i m, match po with | none => sd.ls | some p => sent g.ws sd.ls i p⟩
structure WsOk (g : PG) (sd : SD) (i : Nat) : Prop where
  at_ : i < sd.ss.length
  few : sd.ss.length ≤ 1000
  wfew : g.ws.length ≤ 1000
  ls : ∀ l ∈ sd.ls, l.length ≤ 50000
abbrev sp_with_state (c : CA) : Sp := SpG (fun i : PG × SD × Nat × MS × Option Put => WsOk i.1 i.2.1 i.2.2.1) fun i => ([stdP c i.1 i.2.1, Dat (.int (i.2.2.1 : Int)), stP c.st i.2.2.2.1, Dat (putT1 i.2.2.2.2)], stdP c i.1 (withS i.1 i.2.1 i.2.2.1 i.2.2.2.1 i.2.2.2.2))
theorem c_setS {Ps : Tys} {ta tb tc : TE} {E : XK} {C : Addr} {ss : List MS} {n : Nat} {m : MS} (ha : EvX ta Ps (TupP (ss.map fun m => stP C m))) (hb : EvX tb Ps (Dat (.int (n : Int)))) (hc : EvX tc Ps (stP C m)) (hn : n < ss.length) (hz : ss.length ≤ 100000) :
    EvX (tCall sp_set [] E (tCons ta (tCons tb (tCons tc tNil)))) Ps (TupP ((ss.set n m).map fun m => stP C m)) := by
  refine x_call (ss.map (fun m => stP C m), n, stP C m) ⟨by rw [List.length_map]; exact hn, by rw [List.length_map]; exact hz⟩ (a_cons ha (a_cons hb (a_cons hc a_nil))) ?_
  show TupP ((ss.map fun m => stP C m).set n (stP C m)) = _
  rw [List.map_set]
theorem ok_with_state (F : Fun K "with_state" "Standing.with_state" s_Standing_with_state f fd) (B : Bi mg) (O : Own4 K c) (G_with_item : GF P w K mg base "with_item" ps_with_item 3 sp_set f1 fd1) (C_Standing : GK P w K mg base "Standing" c.std ps_Standing_init 3 (sp_Standing_init c) f2 fd2) :
    FnOk P w K mg base CX0 5 f fd ps_Standing_with_state (sp_with_state c) := by
  refine okG F sc_Standing_with_state (fun _ => rfl) fun cdv A outer s H E hr => ⟨_, (pss_cons (ps_set (i := 4) sc_Standing_with_state.nd rfl (Or.inl rfl) (kPF (K := K) (pe_fld (pv 0) rfl) rfl))
  (pss_cons (ps_if (pt_cmpR oNotN (pv 3) pe_non (nomark _))
  (pss_cons (ps_set (i := 4) sc_Standing_with_state.nd rfl (Or.inl rfl) (pe_lst pa_nil))
  (pss_one (ps_for PassesOwn.never rfl (kPI (r := RZ.iZipA) (K := K) (RZ.pi_zipA rfl B.zip_ (pa_cons (kPF (K := K) (pe_fld (kPF (K := K) (pe_fld (pv 0) rfl) rfl) rfl) rfl) (pa_cons (kPF (K := K) (pe_fld (pv 0) rfl) rfl) pa_nil))) rfl) (kPG (K := K) (pg_tup (n := 2) rfl (pgs_cons (pg_name (i := 5) sc_Standing_with_state.nd rfl (Or.inl rfl)) (pgs_cons (pg_name (i := 6) sc_Standing_with_state.nd rfl (Or.inl rfl)) pgs_nil))) rfl)
  (pss_one (ps_expr (pe_bm PySem.F.plainAttrs_list PySem.F.slot_list_append PySem.F.type_list_append mt_append (pv 4) (pa_cons (pe_ifExp (pt_cmpR oEqS (pe_ix (kIx (r := rIxT) (K := K) ix_tup rfl) (pv 5) pe_int (fun _ _ => rfl)) (pv 1) (nomark _)) (pe_op (kOp (r := rCatA) (K := K) op_catA rfl) (pv 6) (pe_tup (pa_cons (pv 3) pa_nil))) (pv 6)) pa_nil)))))))
  pss_nil)
  (pss_one (ps_ret (pe_k C_Standing (hr.mono (by decide)) rfl (pa_cons (kPF (K := K) (pe_fld (pv 0) rfl) rfl) (pa_cons (kPF (K := K) (pe_fld (pv 0) rfl) rfl) (pa_cons (pe_f G_with_item (hr.mono (by decide)) rfl (pa_cons (kPF (K := K) (pe_fld (pv 0) rfl) rfl) (pa_cons (pv 1) (pa_cons (pv 2) pa_nil)))) (pa_cons (pe_callTy (kC (r := rTupOf) (K := K) cTup rfl) (by rfl) B.tuple_ b_tuple (pa_cons (pv 4) pa_nil)) pa_nil))))))))), fun i F vs Q hp R q => ?_⟩
  obtain ⟨g, sd, i, m, po⟩ := i
  obtain ⟨hi, hfew, hw, hls⟩ : WsOk g sd i := hp
  replace R : RS F H F H _ [some (stdP c g sd), some (Dat (.int (i : Int))), some (stP c.st m), some (Dat (putT1 po)), none, none, none] := R
  refine s_asgS R (P := Dat (enc sd.ls)) (f_ls O (x_var rfl)) fun F H σ R => ?_
  cases po with
  | none =>
    refine s_ifF R (x_test (e_notN (b := true) (x_var (P := Dat .non) rfl) fun F v p => by rw [dat_non p]; rfl)) rfl fun F H R => s_next ?_
    exact s_ret R (x_make (g, withS g sd i m none) trivial (a_cons (f_web O (x_var rfl)) (a_cons (f_prog O (x_var rfl)) (a_cons (c_setS (f_ss O (x_var rfl)) (x_var rfl) (x_var rfl) hi (by omega)) (a_cons (ev_tup (e_tupOfT (ev_untup (x_var (P := Dat (enc sd.ls)) rfl)))) a_nil)))) rfl) q
  | some p =>
    refine s_ifT R (x_test (e_notN (b := false) (x_var (P := Dat (enc p)) rfl) fun F v hv => by obtain ⟨a, xs, rfl, _⟩ := dat_tup.mp hv; rfl)) rfl fun F H R => ?_
    refine so_lstS (Qs := []) R a_nil (Nat.zero_le _) fun l F H σ gl hl R ol => ?_
    let Pt : Nat → Tys := fun _ => [some (stdP c g sd), some (Dat (.int (i : Int))), some (stP c.st m), some (Dat (enc p)), some (Vl (.ref l)), none, none]
    have R' : RS _ _ F H σ (Pt 0) := R
    clear R
    let gg : (Nat × Nat) × List Put → List Put := fun q => if q.1.1 = i then q.2 ++ [p] else q.2
    refine s_forI (K := K) (is := [5, 6]) (xs := g.ws.zip sd.ls) (ι := fun q => TupP [Dat (enc q.1), Dat (enc q.2)]) (ts := fun q => [Dat (enc q.1), Dat (enc q.2)]) R' (i_zipZ (f := enc) (g := enc) (as := g.ws) (bs := sd.ls) (f_wires O (f_web O (x_var (P := stdP c g sd) rfl))) (f_ls O (x_var (P := stdP c g sd) rfl))) Pt (fun t F H => OpL l F H (((g.ws.zip sd.ls).take t).map fun q => Dat (enc (gg q)))) rfl ol (fun q _ => .tup 2 [5, 6] _ rfl rfl) (fun i F H F' H' o g => o.step g) (fun F1 hF1 t q hq F H σ R ol => ?_) fun F H σ R ol => ?_
    · obtain ⟨wr, pl⟩ := q
      replace R : RS _ _ F H σ [some (stdP c g sd), some (Dat (.int (i : Int))), some (stP c.st m), some (Dat (enc p)), some (Vl (.ref l)), some (Dat (enc wr)), some (Dat (enc pl))] := R
      have hpl : pl.length ≤ 50000 := hls pl (List.of_mem_zip (List.mem_of_getElem? hq)).2
      refine so_append (P := Dat (enc (gg (wr, pl)))) R ol hl (x_var rfl) (x_ifE (b := decide (wr.1 = i)) ((x_test (e_eqI (i := (wr.1 : Int)) (x_ixC (n := 0) (ts := [enc wr.1, enc wr.2]) (x_var rfl) rfl) (x_var rfl))).cast nat_eq) (fun h => ?_) fun h => ?_) ?_ fun F H g1 R ol => ⟨F, (R.forget 5).forget 6, ?_⟩
      · have e : gg (wr, pl) = pl ++ [p] := if_pos (of_decide_eq_true h)
        rw [e]
        exact x_snoc (x_var (P := Dat (enc pl)) rfl) (x_var rfl) (by omega)
      · have e : gg (wr, pl) = pl := if_neg (of_decide_eq_false h)
        rw [e]
        exact x_var rfl
      · rw [List.length_map, List.length_take, List.length_zip, sizeLine_eq]
        omega
      · show OpL l F H (((g.ws.zip sd.ls).take (t + 1)).map fun q => Dat (enc (gg q)))
        rw [List.take_add_one, hq, List.map_append]
        exact ol
    · rw [List.take_length] at ol
      obtain ⟨F', R2⟩ := so_fin (j := 4) R ol hl rfl
      refine s_nx (s_ret R2 (x_make (g, withS g sd i m (some p)) trivial (a_cons (f_web O (x_var rfl)) (a_cons (f_prog O (x_var rfl)) (a_cons (c_setS (f_ss O (x_var rfl)) (x_var rfl) (x_var rfl) hi (by omega)) (a_cons ?_ a_nil)))) rfl) q)
      refine e_tupOfD (ts := (sent g.ws sd.ls i p).map enc) ?_
      unfold sent
      rw [List.map_map, List.map_map]
      exact x_var rfl
/-! done, came, behind -/
abbrev sp_done (c : CA) : Sp := SpG (fun i : PG × SD × Nat => StOk i.1 i.2.1 ∧ .act i.2.2 ∈ can i.1 i.2.1) fun i => ([stdP c i.1 i.2.1, Dat (.int (i.2.2 : Int))], stdP c i.1 (behind i.1 i.2.1 (.act i.2.2)))
theorem ok_done (F : Fun K "done" "Standing.done" s_Standing_done f fd) (B : Bi mg) (O : Own4 K c) (G_after_row : GF P w K mg base "after_row" ps_after_row 7 (sp_after_row c.st) f1 fd1) (G_written : GF P w K mg base "written" ps_written 6 (sp_written c.st) f2 fd2)
    (M_Standing_with_state : GM P w K mg base c.std "with_state" ps_Standing_with_state 5 (sp_with_state c) f3 fd3) : FnOk P w K mg base CX0 8 f fd ps_Standing_done (sp_done c) := by
  refine okG F sc_Standing_done (fun _ => rfl) fun cdv A outer s H E hr => ⟨_, (pss_cons (ps_asg (pe_f G_after_row (hr.mono (by decide)) rfl (pa_cons (pe_ix (kIx (r := rIxT) (K := K) ix_tup rfl) (kPF (K := K) (pe_fld (pv 0) rfl) rfl) (pv 1) (fun _ _ => rfl)) (pa_cons (pe_ix (kIx (r := rIxT) (K := K) ix_tup rfl) (kPF (K := K) (pe_fld (kPF (K := K) (pe_fld (pv 0) rfl) rfl) rfl) rfl) (pv 1) (fun _ _ => rfl)) pa_nil))) (kPG (K := K) (pg_tup (n := 2) rfl (pgs_cons (pg_name (i := 2) sc_Standing_done.nd rfl (Or.inl rfl)) (pgs_cons (pg_name (i := 3) sc_Standing_done.nd rfl (Or.inl rfl)) pgs_nil))) rfl))
  (pss_cons (ps_if (pt_cmpR oIsN (pv 3) pe_non (nomark _))
  (pss_one (ps_ret (pe_m M_Standing_with_state (hr.mono (by decide)) (pv 0) (pa_cons (pv 1) (pa_cons (pv 2) (pa_cons pe_non pa_nil))))))
  pss_nil)
  (pss_cons (ps_set (i := 4) sc_Standing_done.nd rfl (Or.inl rfl) (pe_callB (kC (r := rLenG) (K := K) cLen rfl) (by rfl) B.len_ b_len (pa_cons (pe_lc (own := [("put", 5)]) rfl sc_Standing_done.nd (kPI (r := iTup) (K := K) (pi_tup (kPF (K := K) (pe_fld (pv 2) rfl) rfl)) rfl) (blkOk_by (N := nm_Standing_done) (sc := defScope s_Standing_done) (by decide +kernel)) (fun _ _ _ _ _ => (pg_name (i := 5) sc_Standing_done.nd rfl (Or.inl rfl))) (fun _ _ _ _ _ => (pts_one (pt_cmpR oEqS (pe_ix (kIx (r := rIxT) (K := K) ix_tup rfl) (pv 5) pe_int (fun _ _ => rfl)) (pv 1) (nomark _)))) (fun _ _ _ _ _ => (pv 5))) pa_nil)))
  (pss_cons (ps_set (i := 5) sc_Standing_done.nd rfl (Or.inl rfl) (pe_op (kOp (r := rCatA) (K := K) op_catA rfl) (pe_tup (pa_cons (pv 1) (pa_cons (pv 4) pa_nil))) (pv 3)))
  (pss_one (ps_ret (pe_m M_Standing_with_state (hr.mono (by decide)) (pv 0) (pa_cons (pv 1) (pa_cons (pe_f G_written (hr.mono (by decide)) rfl (pa_cons (pv 2) (pa_cons (pv 5) (pa_cons (pe_ix (kIx (r := rIxT) (K := K) ix_tup rfl) (pv 3) pe_int (fun _ _ => rfl)) (pa_cons (pe_ix (kIx (r := rIxT) (K := K) ix_tup rfl) (pv 3) pe_int (fun _ _ => rfl)) pa_nil))))) (pa_cons (pv 5) pa_nil)))))))))), fun i F vs Q hp R q => ?_⟩
  obtain ⟨g, sd, i⟩ := i
  obtain ⟨⟨hg, hws, k, hk, hsd⟩, hst⟩ : StOk g sd ∧ .act i ∈ can g sd := hp
  replace q : ∀ v F' H', Gr F H F' H' → (stdP c g (behind g sd (.act i))).p F' v → Q v H' := q
  have hlen : sd.ss.length ≤ 1000 := by rw [hsd.len]; have := hg.n4; omega
  obtain ⟨hi, hrun⟩ := can_act.mp hst
  obtain ⟨hfa, hrow⟩ := runs_row hsd hi hrun
  obtain ⟨hat, hms⟩ := hsd.at_ hi
  obtain ⟨hmo, hcl⟩ := hms.mOk hg (by omega)
  have hil : i < sd.ss.length := by rw [hsd.len]; exact hi
  have hro := hg.row hi hrow
  have hix := rowOk_ix hro hcl
  have haft := aft_ok hms hrow hro
  have hwo : WsOk g sd i := ⟨hil, hlen, hws, fun l hl => Nat.le_trans (hsd.lok l hl).1 (by omega)⟩
  refine s_unp (is := [2, 3]) (Qs := [stP c.st (aft (msAt sd i) (rowAt (codeOf g i) (msAt sd i).row)).1, Dat (putO (aft (msAt sd i) (rowAt (codeOf g i) (msAt sd i).row)).2)]) R (x_call (msAt sd i, codeOf g i) ⟨hmo, hrow, hix⟩ (a_cons (e_stAt (f_ss O (x_var rfl)) (x_var rfl) hil) (a_cons (e_code (f_codes O (f_prog O (x_var rfl))) (x_var rfl) hi) a_nil)) rfl) rfl rfl fun F H σ R => ?_
  generalize hm : msAt sd i = m at *
  generalize hr0 : rowAt (codeOf g i) m.row = r at *
  obtain ⟨hao, had, hac, hap⟩ := haft
  have hb : behind g sd (.act i) = (match aft m r with
      | (m', none) => ⟨sd.ss.set i m', sd.ls⟩
      | (m', some (c, x)) => ⟨sd.ss.set i (noted m' ⟨i, cntBy i m.diary, c, x⟩), sent g.ws sd.ls i ⟨i, cntBy i m.diary, c, x⟩⟩) := by
    rw [← hr0, ← hm]
    rfl
  rw [hb] at q
  generalize haa : aft m r = ar at *
  obtain ⟨m', po⟩ := ar
  cases po with
  | none =>
    refine s_nx (s_ifT R (x_test (e_isN (b := true) (x_var (P := Dat .non) rfl) fun F v p => by rw [dat_non p]; rfl)) rfl fun F H R => ?_)
    exact s_ret R (x_meth (g, sd, i, m', none) hwo (x_var (P := stdP c g sd) rfl) rfl (a_cons (x_var rfl) (a_cons (x_var rfl) (a_cons x_non a_nil))) rfl rfl) q
  | some cx =>
    obtain ⟨cl, x⟩ := cx
    have hc : cl < g.os.length := hap cl x rfl
    let p : Put := ⟨i, cntBy i m.diary, cl, x⟩
    have hz := hao.mOk hg (by omega)
    refine s_nx (s_ifF R (x_test (e_isN (b := false) (x_var (P := Dat (.tup [.int (cl : Int), .int x])) rfl) fun F v hv => by obtain ⟨a, xs, rfl, _⟩ := dat_tup.mp hv; rfl)) rfl fun F H R => ?_)
    refine s_next (s_asgS R (P := Dat (.int (cntBy i m.diary : Int))) ?_ fun F H σ R => ?_)
    · refine EvX.cast (e_lenL (Qs := (m'.diary.filter fun p => decide (p.w = i)).map fun p => Dat (enc p)) ?_) (by rw [List.length_map, had]; rfl)
      refine x_lc (K := K) (is := [5]) (ts := fun p => [Dat (enc p)]) (b := fun p : Put => decide (p.w = i)) (i_tupM (f := enc) (as := m'.diary) (f_diary O (x_var (P := stP c.st m') rfl))) (fun p _ => .one 5 _) (by decide) (sz1 (Nat.le_trans hz.1.diary (by decide))) (fun p _ => ?_) fun p _ _ => x_var rfl
      exact (x_test (e_eqI (i := (p.w : Int)) (x_ixC (n := 0) (ts := ps4 p) (x_var rfl) rfl) (x_var rfl))).cast nat_eq
    refine s_asgS R (P := Dat (enc p)) (x_catD (ts := [enc p.w, enc p.n]) (us := [enc p.c, enc p.x]) (x_tupD (a_cons (x_var rfl) (a_cons (x_var rfl) a_nil)) (big (by show 2 ≤ _; decide))) (x_var rfl) (big (by show 4 ≤ _; decide))) fun F H σ R => ?_
    refine s_ret R (x_meth (g, sd, i, noted m' p, some p) hwo (x_var (P := stdP c g sd) rfl) rfl (a_cons (x_var rfl) (a_cons (x_call (m', p) ⟨hz.1, by rw [hz.2]; exact hc⟩ (a_cons (x_var rfl) (a_cons (x_var rfl) (a_cons (x_ixC (n := 0) (ts := [.int (cl : Int), .int x]) (x_var rfl) rfl) (a_cons (x_ixC (n := 1) (ts := [.int (cl : Int), .int x]) (x_var rfl) rfl) a_nil)))) rfl) (a_cons (x_var rfl) a_nil))) rfl rfl) q
abbrev sp_came (c : CA) : Sp := SpG (fun i : PG × SD × Nat × Nat => StOk i.1 i.2.1 ∧ .come i.2.2.1 i.2.2.2 ∈ can i.1 i.2.1) fun i => ([stdP c i.1 i.2.1, Dat (.tup [.int (i.2.2.1 : Int), .int (i.2.2.2 : Int)])], stdP c i.1 (behind i.1 i.2.1 (.come i.2.2.1 i.2.2.2)))
theorem ok_came (F : Fun K "came" "Standing.came" s_Standing_came f fd) (B : Bi mg) (O : Own4 K c) (G_with_item : GF P w K mg base "with_item" ps_with_item 3 sp_set f1 fd1) (C_Standing : GK P w K mg base "Standing" c.std ps_Standing_init 3 (sp_Standing_init c) f2 fd2)
    (G_written : GF P w K mg base "written" ps_written 6 (sp_written c.st) f3 fd3) (M_Standing_with_state : GM P w K mg base c.std "with_state" ps_Standing_with_state 5 (sp_with_state c) f4 fd4) : FnOk P w K mg base CX0 7 f fd ps_Standing_came (sp_came c) := by
  refine okG F sc_Standing_came (fun _ => rfl) fun cdv A outer s H E hr => ⟨_, (pss_cons (ps_set (i := 2) sc_Standing_came.nd rfl (Or.inl rfl) (pe_indexZ (ru65 (hr.mono (by decide))) (kPF (K := K) (pe_fld (kPF (K := K) (pe_fld (pv 0) rfl) rfl) rfl) rfl) (pa_cons (pv 1) pa_nil)))
  (pss_cons (ps_set (i := 3) sc_Standing_came.nd rfl (Or.inl rfl) (pe_ix (kIx (r := rIxT) (K := K) ix_tup rfl) (pe_ix (kIx (r := rIxT) (K := K) ix_tup rfl) (kPF (K := K) (pe_fld (pv 0) rfl) rfl) (pv 2) (fun _ _ => rfl)) pe_int (fun _ _ => rfl)))
  (pss_cons (ps_set (i := 4) sc_Standing_came.nd rfl (Or.inl rfl) (pe_f G_with_item (hr.mono (by decide)) rfl (pa_cons (kPF (K := K) (pe_fld (pv 0) rfl) rfl) (pa_cons (pv 2) (pa_cons (pe_slice (kSl (r := rSlA) (K := K) sl_tupA rfl) (pe_ix (kIx (r := rIxT) (K := K) ix_tup rfl) (kPF (K := K) (pe_fld (pv 0) rfl) rfl) (pv 2) (fun _ _ => rfl)) (po_some pe_int) po_none) pa_nil)))))
  (pss_cons (ps_set (i := 5) sc_Standing_came.nd rfl (Or.inl rfl) (pe_k C_Standing (hr.mono (by decide)) rfl (pa_cons (kPF (K := K) (pe_fld (pv 0) rfl) rfl) (pa_cons (kPF (K := K) (pe_fld (pv 0) rfl) rfl) (pa_cons (kPF (K := K) (pe_fld (pv 0) rfl) rfl) (pa_cons (pv 4) pa_nil))))))
  (pss_cons (ps_set (i := 6) sc_Standing_came.nd rfl (Or.inl rfl) (pe_ix (kIx (r := rIxT) (K := K) ix_tup rfl) (kPF (K := K) (pe_fld (pv 0) rfl) rfl) (pe_ix (kIx (r := rIxT) (K := K) ix_tup rfl) (pv 1) pe_int (fun _ _ => rfl)) (fun _ _ => rfl)))
  (pss_cons (ps_if (pt_cmpR (kOp (r := rInT) (K := K) (oInT (ru65 (hr.mono (by decide)))) rfl) (pv 3) (kPF (K := K) (pe_fld (pv 6) rfl) rfl) rfl)
  (pss_one (ps_ret (pv 5)))
  pss_nil)
  (pss_one (ps_ret (pe_m M_Standing_with_state (hr.mono (by decide)) (pv 5) (pa_cons (pe_ix (kIx (r := rIxT) (K := K) ix_tup rfl) (pv 1) pe_int (fun _ _ => rfl)) (pa_cons (pe_f G_written (hr.mono (by decide)) rfl (pa_cons (pv 6) (pa_cons (pv 3) (pa_cons (pe_ix (kIx (r := rIxT) (K := K) ix_tup rfl) (pv 3) pe_int (fun _ _ => rfl)) (pa_cons (pe_ix (kIx (r := rIxT) (K := K) ix_tup rfl) (pv 3) pe_int (fun _ _ => rfl)) pa_nil))))) (pa_cons (pv 3) pa_nil)))))))))))), fun i F vs Q hp R q => ?_⟩
  obtain ⟨g, sd, y, x⟩ := i
  obtain ⟨⟨hg, hws, k, hk, hsd⟩, hst⟩ : StOk g sd ∧ .come y x ∈ can g sd := hp
  replace q : ∀ v F' H', Gr F H F' H' → (stdP c g (behind g sd (.come y x))).p F' v → Q v H' := q
  have hlen : sd.ss.length ≤ 1000 := by rw [hsd.len]; have := hg.n4; omega
  obtain ⟨hm, hj, hx, p, r, hpr⟩ := come_at hg hsd hst
  have hjz : sd.ls.length ≤ 1000 := by rw [hsd.lln]; exact hws
  obtain ⟨hat, hms⟩ := hsd.at_ hx
  obtain ⟨hmo, hcl⟩ := hms.mOk hg (by omega)
  have hxl : x < sd.ss.length := by rw [hsd.len]; exact hx
  have hb : behind g sd (.come y x) = (match sd.ls.getD (g.ws.idxOf (y, x)) [] with
      | [] => sd
      | p :: r => if p ∈ (msAt sd x).diary then ⟨sd.ss, sd.ls.set (g.ws.idxOf (y, x)) r⟩ else ⟨sd.ss.set x (noted (msAt sd x) p), sent g.ws (sd.ls.set (g.ws.idxOf (y, x)) r) x p⟩) := rfl
  rw [hb, List.getD_eq_getElem?_getD, hpr] at q
  replace q : ∀ v F' H', Gr _ _ F' H' → (stdP c g (if p ∈ (msAt sd x).diary then (⟨sd.ss, sd.ls.set (g.ws.idxOf (y, x)) r⟩ : SD) else ⟨sd.ss.set x (noted (msAt sd x) p), sent g.ws (sd.ls.set (g.ws.idxOf (y, x)) r) x p⟩)).p F' v → Q v H' := q
  have hlok := hsd.lok _ (List.mem_of_getElem? hpr)
  have hpc : p.c < g.os.length := hlok.2 p List.mem_cons_self
  generalize hj0 : g.ws.idxOf (y, x) = j at hj hpr q
  refine s_asgS R (P := Dat (.int (j : Int))) ?_ fun F H σ R => ?_
  · rw [← hj0]
    exact e_indexZ (f_wires O (f_web O (x_var (P := stdP c g sd) rfl))) (x_var rfl) hm
  have hlj : (sd.ls.map enc)[j]? = some (enc (p :: r)) := by rw [List.getElem?_map, hpr]; rfl
  refine s_asgS R (P := Dat (enc p)) (x_ixC (n := 0) (ts := enc p :: r.map enc) (x_ixV (ts := sd.ls.map enc) (f_ls O (x_var (P := stdP c g sd) rfl)) (x_var rfl) hlj) rfl) fun F H σ R => ?_
  refine s_asgS R (P := Dat (enc (sd.ls.set j r))) (c_set (as := sd.ls) (n := j) (a := r) (f_ls O (x_var (P := stdP c g sd) rfl)) (x_var rfl) (x_slD (ts := (p :: r).map enc) (us := r.map enc) (x_ixV (ts := sd.ls.map enc) (f_ls O (x_var (P := stdP c g sd) rfl)) (x_var rfl) hlj) (o_some (i := 1) x_int) o_none (cut_from _ 1)) hj (by omega)) fun F H σ R => ?_
  refine s_asgS R (P := stdP c g ⟨sd.ss, sd.ls.set j r⟩) (x_make (g, ⟨sd.ss, sd.ls.set j r⟩) trivial (a_cons (f_web O (x_var (P := stdP c g sd) rfl)) (a_cons (f_prog O (x_var (P := stdP c g sd) rfl)) (a_cons (f_ss O (x_var (P := stdP c g sd) rfl)) (a_cons (x_var rfl) a_nil)))) rfl) fun F H σ R => ?_
  refine s_asgS R (P := stP c.st (msAt sd x)) (e_stAt (f_ss O (x_var (P := stdP c g sd) rfl)) (x_ixC (n := 1) (ts := [.int (y : Int), .int (x : Int)]) (x_var rfl) rfl) hxl) fun F H σ R => ?_
  by_cases hd : p ∈ (msAt sd x).diary
  · rw [if_pos hd] at q
    exact s_ifT R (x_test (e_inT (a := p) (as := (msAt sd x).diary) (x_var rfl) (f_diary O (x_var rfl)))) (decide_eq_true hd) fun F H R => s_ret R (x_var rfl) q
  · rw [if_neg hd] at q
    refine s_ifF R (x_test (e_inT (a := p) (as := (msAt sd x).diary) (x_var rfl) (f_diary O (x_var rfl)))) (decide_eq_false hd) fun F H R => s_next ?_
    have hlk : ∀ l ∈ sd.ls.set j r, l.length ≤ 50000 := fun l hl => by
      rcases List.mem_or_eq_of_mem_set hl with z | z
      · exact Nat.le_trans (hsd.lok l z).1 (by omega)
      · subst z
        have := hlok.1
        rw [List.length_cons] at this
        omega
    refine s_ret R (P := stdP c g ⟨sd.ss.set x (noted (msAt sd x) p), sent g.ws (sd.ls.set j r) x p⟩) (x_meth (g, (⟨sd.ss, sd.ls.set j r⟩ : SD), x, noted (msAt sd x) p, some p) ⟨hxl, hlen, hws, hlk⟩ (x_var (P := stdP c g ⟨sd.ss, sd.ls.set j r⟩) rfl) rfl (a_cons (x_ixC (n := 1) (ts := [.int (y : Int), .int (x : Int)]) (x_var rfl) rfl) (a_cons (x_call (msAt sd x, p) ⟨hmo, by rw [show (msAt sd x, p).1.cells.length = g.os.length from hcl]; exact hpc⟩ (a_cons (x_var rfl) (a_cons (x_var rfl) (a_cons (x_ixC (n := 2) (ts := ps4 p) (x_var rfl) rfl) (a_cons (x_ixC (n := 3) (ts := ps4 p) (x_var rfl) rfl) a_nil)))) rfl) (a_cons (x_var rfl) a_nil))) rfl rfl) q
abbrev sp_behind (c : CA) : Sp := SpG (fun i : PG × SD × Step => StOk i.1 i.2.1 ∧ i.2.2 ∈ can i.1 i.2.1) fun i => ([stdP c i.1 i.2.1, Dat (enc i.2.2)], stdP c i.1 (behind i.1 i.2.1 i.2.2))
theorem ok_behind (F : Fun K "behind" "Standing.behind" s_Standing_behind f fd) (M_Standing_done : GM P w K mg base c.std "done" ps_Standing_done 8 (sp_done c) f1 fd1) (M_Standing_came : GM P w K mg base c.std "came" ps_Standing_came 7 (sp_came c) f2 fd2) :
    FnOk P w K mg base CX0 9 f fd ps_Standing_behind (sp_behind c) := by
  refine okG F sc_Standing_behind (fun _ => rfl) fun cdv A outer s H E hr => ⟨_, (pss_one (ps_ret (pe_ifExp (pt_cmpR oEqS (pe_ix (kIx (r := rIxT) (K := K) ix_tup rfl) (pv 1) pe_int (fun _ _ => rfl)) pe_str (nomark _)) (pe_m M_Standing_done (hr.mono (by decide)) (pv 0) (pa_cons (pe_ix (kIx (r := rIxT) (K := K) ix_tup rfl) (pv 1) pe_int (fun _ _ => rfl)) pa_nil)) (pe_m M_Standing_came (hr.mono (by decide)) (pv 0) (pa_cons (pe_slice (kSl (r := rSlA) (K := K) sl_tupA rfl) (pv 1) (po_some pe_int) po_none) pa_nil))))), fun i F vs Q hp R q => ?_⟩
  obtain ⟨g, sd, st⟩ := i
  obtain ⟨h1, h2⟩ : StOk g sd ∧ st ∈ can g sd := hp
  cases st with
  | act i =>
    exact s_ret R (x_ifE (x_test (e_eqS (step_at (s := .act i) (n := 0) rfl rfl rfl) x_str)) (fun _ => x_meth (g, sd, i) ⟨h1, h2⟩ (x_var (P := stdP c g sd) rfl) rfl (a_cons (step_at (s := .act i) (n := 1) rfl rfl rfl) a_nil) rfl rfl) fun h => absurd h (by decide +kernel)) q
  | come y x =>
    exact s_ret R (x_ifE (x_test (e_eqS (step_at (s := .come y x) (n := 0) rfl rfl rfl) x_str)) (fun h => absurd h (by decide +kernel)) fun h => x_meth (g, sd, y, x) ⟨h1, h2⟩ (x_var (P := stdP c g sd) rfl) rfl (a_cons (x_slD (ts := [.str "come", .int (y : Int), .int (x : Int)]) (x_var (P := Dat (enc (Step.come y x))) rfl) (o_some (i := 1) x_int) o_none (cut_from _ 1)) a_nil) rfl rfl) q
/-! the first -/
theorem gk_State {C : Addr} (C_State : GK P w K mg base "State" C ps_State_init 3 (sp_State_init C) f1 fd1) : GK P w K mg base "State" C ps_State_init 3 (SpN C (fun i : Nat × List Int => i.1 ≤ 1000) fun i => ([Dat (.int (i.1 : Int)), Dat (enc i.2)], stP C (newMS i.1 i.2))) f1 fd1 :=
  ⟨C_State.ok.imp fun vs H Q E ⟨i, F, x, dx, us, h1, h2, h3, h4, h5, h6, q⟩ => ⟨i, F, x, dx, us, h1, h2, h3, h4, h5, h6, fun F' H' g o => by
    obtain ⟨F2, k1, _, k3⟩ := o.done g hid_same
    exact q F2 H' k1 k3⟩, C_State.made, C_State.at_, C_State.b⟩
abbrev sp_first_standing (c : CA) : Sp := SpG (fun g : PG => PGOk g ∧ g.ws.length ≤ 1000) fun g => ([webP c g, progP c g], stdP c g (first g))
theorem ok_first_standing (F : Fun K "first_standing" "first_standing" s_first_standing f fd) (B : Bi mg) (O : Own4 K c) (C_State' : GK P w K mg base "State" c.st ps_State_init 3 (sp_State_init c.st) f1 fd1) (C_Standing : GK P w K mg base "Standing" c.std ps_Standing_init 3 (sp_Standing_init c) f2 fd2) :
    FnOk P w K mg base CX0 5 f fd ps_first_standing (sp_first_standing c) := by
  have C_State := gk_State C_State'
  refine okG F sc_first_standing (fun _ => rfl) fun cdv A outer s H E hr => ⟨_, (pss_cons (ps_set (i := 2) sc_first_standing.nd rfl (Or.inl rfl) (pe_callTy (kC (r := rTupOf) (K := K) cTup rfl) (by rfl) B.tuple_ b_tuple (pa_cons (pe_lc (own := [("code", 3)]) rfl sc_first_standing.nd (kPI (r := iTup) (K := K) (pi_tup (kPF (K := K) (pe_fld (pv 1) rfl) rfl)) rfl) (blkOk_by (N := nm_first_standing) (sc := defScope s_first_standing) (by decide +kernel)) (fun _ _ _ _ _ => (pg_name (i := 3) sc_first_standing.nd rfl (Or.inl rfl))) (fun _ _ _ _ _ => pts_nil) (fun _ _ _ _ _ => (pe_k C_State (hr.mono (by decide)) rfl (pa_cons (pe_callB (kC (r := rLenG) (K := K) cLen rfl) (by rfl) B.len_ b_len (pa_cons (kPF (K := K) (pe_fld (pv 1) rfl) rfl) pa_nil)) (pa_cons (pe_tup pa_nil) pa_nil))))) pa_nil)))
  (pss_one (ps_ret (pe_k C_Standing (hr.mono (by decide)) rfl (pa_cons (pv 0) (pa_cons (pv 1) (pa_cons (pv 2) (pa_cons (pe_op (kOp (r := rRepA) (K := K) op_repA rfl) (pe_tup (pa_cons (pe_tup pa_nil) pa_nil)) (pe_callB (kC (r := rLenG) (K := K) cLen rfl) (by rfl) B.len_ b_len (pa_cons (kPF (K := K) (pe_fld (pv 0) rfl) rfl) pa_nil))) pa_nil)))))))), fun g F vs Q hp R q => ?_⟩
  obtain ⟨hg, hw⟩ : PGOk g ∧ g.ws.length ≤ 1000 := hp
  have h4 := hg.n4
  have h3 := hg.o3
  refine s_asgS R (P := ssP c (first g).ss) (e_tupOf ?_) fun F H σ R => ?_
  · have e : (first g).ss.map (fun m => stP c.st m) = g.cs.map fun _ => stP c.st (newMS g.os.length []) := by
      show (List.replicate g.cs.length _).map _ = _
      rw [List.map_replicate, List.map_const']
      rfl
    rw [e]
    refine x_lcM (K := K) (is := [3]) (xs := g.cs) (ι := fun co => Dat (codeT co)) (ts := fun co => [Dat (codeT co)]) (i_tupM (f := codeT) (as := g.cs) (f_codes O (x_var rfl))) (fun m _ => .one 3 _) (by decide) (sz1 (by omega)) fun m _ => ?_
    exact x_make (g.os.length, []) (by show g.os.length ≤ 1000; omega) (a_cons (e_lenE (as := g.os) (f_owners O (x_var rfl))) (a_cons (e_unitE (α := Int)) a_nil)) rfl
  · refine s_ret R (x_make (g, first g) trivial (a_cons (x_var rfl) (a_cons (x_var rfl) (a_cons (x_var rfl) (a_cons (e_repE (a := ([] : List Put)) (n := g.ws.length) e_unitE (e_wsLen (f_wires O (x_var rfl))) hw) a_nil)))) rfl) q
end
end G
namespace G
open PySem PySem.Spec PyProof.Rows L2
open Enc (enc)
section
variable {C : Hp → Hp → Prop} {K : PySem.W.Frag} {Ps : Tys} {P P' R : Ty} {te ta tb : TE} {tl : TA} {tc : TT} {b : Bool} {F0 H0 F H : Hp} {σ : L2.St} {D : Ends} {tu tw t2 : TS} {Qs Rs : List Ty} {l d : Addr} {j : Nat} {f : Str}
theorem xo_fldO {x Cl : Addr} {tfs : Flds} {fs : List Str} (u : Up C) (hC : ∀ F H, C F H → Op x Cl F H tfs) (h : EvX te Ps (Vl (.ref x))) (o : OwnC K Cl fs) (hf : f ∈ fs) (hl : tfs.lookup f = some P) : EvXo C (tFld K te f) Ps P := fun F H σ e s c Q q =>
  h F H σ e s _ fun v F1 H1 g1 p1 => by
    have e1 : v = .ref x := p1
    subst e1
    obtain ⟨_, dx, vs, h2, h3⟩ := hC _ _ (u _ _ _ _ c g1)
    obtain ⟨u', k1, k2⟩ := h3.get hl
    exact ⟨x, Cl, dx, vs, u', rfl, h2, o.cl, o.na f hf, k1, q u' F1 H1 g1 k2⟩
theorem so_appendX (u : Up C) (c : C F H) (R : RS F0 H0 F H σ Ps) (o : OpL l F H Qs) (h0 : H0 l = none) (ho : EvXo C ta Ps (Vl (.ref l))) (hx : EvXo C te Ps P) (hl : Qs.length < sizeLine) (k : ∀ F' H', GrE [l] F H F' H' → RS F0 H0 F' H' σ Ps → OpL l F' H' (Qs ++ [P]) → D.nx σ H') : tDrop (tBM K "list" rAppend ta (tCons te tNil)) D σ H :=
  ho F H σ R.fh R.sl c _ fun x F1 H1 g1 p1 => by
    have e1 : x = .ref l := p1
    subst e1
    have o1 := o.step g1
    obtain ⟨f1, us, k1, k2⟩ := id o1
    refine ⟨.inl ⟨rfl, us, SqL.of k1⟩, hx F1 H1 σ g1.fh (R.sl.up g1.ff) (u _ _ _ _ c g1) _ fun y F2 H2 g2 p2 => ?_⟩
    obtain ⟨f2, vs, m1, m2⟩ := id (o1.step g2)
    have g : GrE [l] F H F2 (upd H2 l (.lst (vs ++ [y]))) := ((GrE.of g1).trans (GrE.of g2)).trans (GrE.put g2.fh f2 m1)
    exact ⟨l, vs, y, rfl, rfl, m1, by rw [← m2.len]; exact hl, k F2 _ g (R.stepE (fun a ha => by rw [List.mem_singleton.mp ha]; exact h0) g) ⟨f2, _, upd_same, m2.append (.cons p2 .nil)⟩⟩
theorem so_setDX {P0 : Program} {w : World} {t : T} {kvs : List (T × Ty)} (u : Up C) (c : C F H) (R : RS F0 H0 F H σ Ps) (o : OpD P0 w d F H kvs) (h0 : H0 d = none) (hv : EvXo C te Ps P) (hd : EvXo C ta Ps (Vl (.ref d))) (hk : EvX tb Ps (Dat t)) (ky : Ky t) (hn : t.key ∉ kvs.map (·.1.key)) (hl : kvs.length < 100000)
    (k : ∀ F' H', GrE [d] F H F' H' → RS F0 H0 F' H' σ Ps → OpD P0 w d F' H' (kvs ++ [(t, P)]) → D.nx σ H') : tAsg te (gSub ta tb (rSetN P0 w)) D σ H :=
  hv F H σ R.fh R.sl c _ fun v F1 H1 g1 p1 => hd F1 H1 σ g1.fh (R.sl.up g1.ff) (u _ _ _ _ c g1) _ fun x F2 H2 g2 p2 => hk F2 H2 σ g2.fh (R.sl.up (g1.ff.trans g2.ff)) _ fun y F3 H3 g3 p3 => by
    have g := (g1.trans g2).trans g3
    have e2 : x = .ref d := p2
    subst e2
    obtain ⟨f3, xs, k1, k2⟩ := o.step g
    have kr : KyR F3 y t := Ky.r ky p3
    obtain ⟨⟨a, ea⟩, _⟩ := id kr
    subst ea
    refine ⟨F3, d, xs, t, a, g3.fh, rfl, k1, k2.ok, rfl, kr, by rw [k2.keys]; exact hn, by rw [← k2.len]; exact hl, fun u ru => ?_⟩
    have gp : GrE [d] F3 H3 F3 (upd H3 d (DctO P0 w d (xs ++ [(t.key, a, u)]))) := GrE.put g3.fh f3 k1
    have ge := (GrE.of (A := [d]) g).trans gp
    exact k F3 _ ge (R.stepE (fun b hb => by rw [List.mem_singleton.mp hb]; exact h0) ge) ⟨f3, _, upd_same, KR.snoc ⟨rfl, kr, v, P.up _ _ _ (g2.ff.trans g3.ff) p1, ru⟩ k2⟩
theorem xo_lenL (u : Up C) (hC : ∀ F H, C F H → OpL l F H Qs) (h : EvXo C te Ps (Vl (.ref l))) : EvXo C (tCB (rLenG K) (tCons te tNil)) Ps (Dat (.int (Qs.length : Int))) := fun F H σ e s c Q q =>
  (ao_cons u h ao_nil) F H σ e s c _ fun vs F1 H1 g1 p1 => by
    cases p1 with
    | cons p1 p2 =>
      cases p2
      obtain ⟨_, us, k1, k2⟩ := hC _ _ (u _ _ _ _ c g1)
      refine ⟨l, us, by rw [show _ = V.ref l from p1], .inl (SqL.of k1), q _ F1 H1 g1 ?_⟩
      rw [k2.len]
      exact .int _
end
/-! ### the search -/
def srchNs : List Str := ["found", "ways", "numbers"]
def wayT : Option (Nat × Step) → T
  | none => .non
  | some (i, s) => .tup [.int (i : Int), enc s]
abbrev fsP (c : CA) (g : PG) (fs : List SD) : List Ty := fs.map fun sd => stdP c g sd
abbrev wsW (ws : List (Option (Nat × Step))) : List Ty := ws.map fun q => Dat (wayT q)
def numT (fs : List SD) : List (T × Ty) := (nums fs).map fun q => (enc q.2.k, Dat (.int (q.1 : Int)))
theorem nums_snoc (fs : List SD) (sd : SD) : nums (fs ++ [sd]) = nums fs ++ [(fs.length, sd)] := by
  unfold nums
  rw [List.length_append, List.length_singleton, List.range_succ, List.zip_append (by rw [List.length_range])]
  rfl
theorem numT_snoc (fs : List SD) (sd : SD) : numT (fs ++ [sd]) = numT fs ++ [(enc sd.k, Dat (.int (fs.length : Int)))] := by
  unfold numT
  rw [nums_snoc, List.map_append]
  rfl
theorem numT_keys (fs : List SD) : (numT fs).map (·.1.key) = fs.map fun sd => (enc sd.k).key := by
  unfold numT nums
  rw [List.map_map]
  have : ((fun x : T × Ty => x.1.key) ∘ fun q : Nat × SD => (enc q.2.k, Dat (.int (q.1 : Int)))) = (fun sd : SD => (enc sd.k).key) ∘ Prod.snd := rfl
  rw [this, ← List.map_map, List.map_snd_zip (by rw [List.length_range]; exact Nat.le_refl _)]
theorem numT_len (fs : List SD) : (numT fs).length = fs.length := by
  unfold numT nums
  rw [List.length_map, List.length_zip, List.length_range, Nat.min_self]
theorem k_key (sd : SD) : Ky (enc sd.k) := ⟨⟨_, rfl⟩, by rw [key_dep]; exact Nat.le_trans (Enc.dep_le sd.k) (by decide)⟩
abbrev srchF (P : Program) (w : World) (c : CA) (g : PG) (b : Bf) : Flds := [("found", LstP (fsP c g b.fs)), ("ways", LstP (wsW b.ws)), ("numbers", DctP P w (numT b.fs))]
abbrev srchP (P : Program) (w : World) (c : CA) (g : PG) (b : Bf) : Ty := InsP c.srch (srchF P w c g b)
/-- a search under way -/
structure OpS (P : Program) (w : World) (c : CA) (g : PG) (x l wl d : Addr) (F H : Hp) (b : Bf) : Prop where
  o : Op x c.srch F H [("found", Vl (.ref l)), ("ways", Vl (.ref wl)), ("numbers", Vl (.ref d))]
  fs : OpL l F H (fsP c g b.fs)
  ws : OpL wl F H (wsW b.ws)
  ds : OpD P w d F H (numT b.fs)
  ne : l ≠ wl
section
variable {P : Program} {w : World} {c : CA} {g : PG} {x l wl d : Addr} {F H F' H' F0 H0 : Hp} {b : Bf}
theorem OpS.step (o : OpS P w c g x l wl d F H b) (gr : Gr F H F' H') : OpS P w c g x l wl d F' H' b := ⟨o.o.step gr, o.fs.step gr, o.ws.step gr, o.ds.step gr, o.ne⟩
theorem Op.ne_l {C : Addr} {tfs : Flds} {Qs : List Ty} (o : Op x C F H tfs) (o' : OpL l F H Qs) : x ≠ l := fun z => by
  obtain ⟨_, dx, us, h2, _⟩ := o
  obtain ⟨_, xs, h3, _⟩ := o'
  rw [z, h3] at h2
  cases h2
theorem Op.ne_d {C : Addr} {tfs : Flds} {kvs : List (T × Ty)} (o : Op x C F H tfs) (o' : OpD P w d F H kvs) : x ≠ d := fun z => by
  obtain ⟨_, dx, us, h2, _⟩ := o
  obtain ⟨_, xs, h3, _⟩ := o'
  rw [z, h3] at h2
  cases h2
theorem FldP.inv {n : Str} {Q : Ty} {tfs : Flds} : ∀ {fs : List (Str × V)}, FldP F ((n, Q) :: tfs) fs → ∃ v fs', fs = (n, v) :: fs' ∧ Q.p F v ∧ FldP F tfs fs'
  | (m, v) :: fs', .cons h t => by
    obtain ⟨e, q⟩ := h
    have e' : n = m := e
    subst e'
    exact ⟨v, fs', rfl, q, t⟩
/-- the fields' values -/
theorem OpS.vals (o : OpS P w c g x l wl d F H b) : ∃ dx, H x = some (.ins c.srch dx [("found", .ref l), ("ways", .ref wl), ("numbers", .ref d)]) := by
  obtain ⟨_, dx, vs, hx, hv⟩ := o.o
  obtain ⟨v1, fs1, rfl, q1, hv⟩ := FldP.inv hv
  obtain ⟨v2, fs2, rfl, q2, hv⟩ := FldP.inv hv
  obtain ⟨v3, fs3, rfl, q3, hv⟩ := FldP.inv hv
  have a1 : v1 = .ref l := q1
  have a2 : v2 = .ref wl := q2
  have a3 : v3 = .ref d := q3
  have a4 : fs3 = [] := by
    have := hv.len
    exact List.length_eq_zero_iff.mp this.symm
  subst a1 a2 a3 a4
  exact ⟨dx, hx⟩
theorem OpS.now (e : Same F H) (o : OpS P w c g x l wl d F H b) : (srchP P w c g b).p H (.ref x) := by
  obtain ⟨dx, hx⟩ := o.vals
  exact ⟨x, dx, _, rfl, hx, .cons ⟨rfl, o.fs.now e⟩ (.cons ⟨rfl, o.ws.now e⟩ (.cons ⟨rfl, o.ds.now e⟩ .nil))⟩
theorem OpS.fin (o : OpS P w c g x l wl d F H b) (gr : Gr F0 H0 F H) (hx0 : H0 x = none) (hl0 : H0 l = none) (hw0 : H0 wl = none) (hd0 : H0 d = none) : ∃ F', Gr F0 H0 F' H ∧ Same F F' ∧ (srchP P w c g b).p F' (.ref x) := by
  obtain ⟨dx, hx⟩ := o.vals
  have nxl := o.o.ne_l o.fs
  have nxw := o.o.ne_l o.ws
  have nxd := o.o.ne_d o.ds
  have nld := o.fs.ne_d o.ds
  have nwd := o.ws.ne_d o.ds
  have nlw := o.ne
  obtain ⟨f1, us, h1, a1⟩ := o.fs
  obtain ⟨f2, vs, h2, a2⟩ := o.ws
  obtain ⟨f3, ks, h3, a3⟩ := o.ds
  have f4 := o.o.1
  have e1 : upd F l (.lst us) wl = none := by rw [upd_ne nlw.symm]; exact f2
  have e2 : upd (upd F l (.lst us)) wl (.lst vs) d = none := by rw [upd_ne nwd.symm, upd_ne nld.symm]; exact f3
  have e3 : upd (upd (upd F l (.lst us)) wl (.lst vs)) d (DctO P w d ks) x = none := by rw [upd_ne nxd, upd_ne nxw, upd_ne nxl]; exact f4
  have g1 := gr.freeze hl0 f1 h1
  have g2 := g1.freeze hw0 e1 h2
  have g3 := g2.freeze hd0 e2 h3
  have g4 := g3.freeze hx0 e3 hx
  have s : Same F (upd (upd (upd (upd F l (.lst us)) wl (.lst vs)) d (DctO P w d ks)) x (.ins c.srch dx [("found", .ref l), ("ways", .ref wl), ("numbers", .ref d)])) := (((Same.upd_new f1).trans (Same.upd_new e1)).trans (Same.upd_new e2)).trans (Same.upd_new e3)
  refine ⟨_, g4, s, x, dx, _, rfl, upd_same, .cons ⟨rfl, l, us, rfl, ?_, a1.up s⟩ (.cons ⟨rfl, wl, vs, rfl, ?_, a2.up s⟩ (.cons ⟨rfl, d, ks, rfl, ?_, a3.up s⟩ .nil))⟩
  · rw [upd_ne nxl.symm, upd_ne nld, upd_ne nlw, upd_same]
  · rw [upd_ne nxw.symm, upd_ne nwd, upd_same]
  · rw [upd_ne nxd.symm, upd_same]
end
end G
namespace G
open PySem PySem.Spec PyProof.Rows L2
open Enc (enc)
abbrev s_check_many : Stmt := top 12
abbrev nm_check_many : List Str := ["number", "most"]
abbrev ps_check_many : List Str := ["number", "most"]
theorem sc_check_many : FnScope nm_check_many ps_check_many (defScope s_check_many) := ⟨rfl, rfl, rfl, by decide +kernel, rfl, by decide +kernel, by decide +kernel⟩
abbrev s_Search_init : Stmt := inClass (top 35) 0
abbrev nm_Search_init : List Str := ["self", "first", "done", "here", "step"]
abbrev ps_Search_init : List Str := ["self", "first"]
theorem sc_Search_init : FnScope nm_Search_init ps_Search_init (defScope s_Search_init) := ⟨rfl, rfl, rfl, by decide +kernel, rfl, by decide +kernel, by decide +kernel⟩
abbrev s_Search_add : Stmt := inClass (top 35) 1
abbrev nm_Search_add : List Str := ["self", "standing", "number", "step", "key"]
abbrev ps_Search_add : List Str := ["self", "standing", "number", "step"]
theorem sc_Search_add : FnScope nm_Search_add ps_Search_add (defScope s_Search_add) := ⟨rfl, rfl, rfl, by decide +kernel, rfl, by decide +kernel, by decide +kernel⟩
def hids (H : Hp) (A : List Addr) : Hp := fun a => if a ∈ A then none else H a
theorem hids_in {H : Hp} {A : List Addr} {a : Addr} (h : a ∈ A) : hids H A a = none := if_pos h
theorem hids_out {H : Hp} {A : List Addr} {a : Addr} (h : a ∉ A) : hids H A a = H a := if_neg h
theorem hids_some {H : Hp} {A : List Addr} {a : Addr} {o : HO} (h : hids H A a = some o) : H a = some o := by
  unfold hids at h
  split at h
  · cases h
  · exact h
/-- from what is hidden to what is but for A -/
theorem Gr.unhide {A : List Addr} {F H F' H' : Hp} (g : Gr F (hids H A) F' H') (ha : ∀ a ∈ A, F' a = none ∧ H' a ≠ none) : GrE A F H F' H' :=
  ⟨g.ff, fun b o n h => g.hh b o (by rw [hids_out n]; exact h), g.fh, fun a hx hf => by
    by_cases c : a ∈ A
    · exact (ha a c).1
    · exact g.nw a (by rw [hids_out c]; exact hx) hf, fun a hx => by
    by_cases c : a ∈ A
    · exact (ha a c).2
    · cases e : H a with
      | none => exact absurd e hx
      | some o => rw [g.hh a o (by rw [hids_out c]; exact e)]; exact fun z => by cases z⟩
section
variable {K : PySem.W.Frag} {Ps PsN : Tys} {te : TE} {t : T} {F0 H0 F H : Hp} {σ : L2.St} {D : Ends} {t2 : TS}
theorem so_dropNow (R : RS F0 H0 F H σ Ps) (hs : Slots H σ PsN) (h : EvX te PsN (Dat t)) (sc : Scal t) (k : ∀ H', Gr F H F H' → RS F0 H0 F H' σ Ps → D.nx σ H') : tDrop te D σ H :=
  now_x h R.fh hs sc fun H' g => k H' g (R.step g)
theorem so_dropNowS (R : RS F0 H0 F H σ Ps) (hs : Slots H σ PsN) (h : EvX te PsN (Dat t)) (sc : Scal t) (k : ∀ H', Gr F H F H' → RS F0 H0 F H' σ Ps → t2 D σ H') : tSeq (tDrop te) t2 D σ H := so_dropNow R hs h sc k
end
section
variable {P : Program} {w : World} {K : PySem.W.Frag} {mg : Str → Option Value} {base : Heap} {f f1 f2 f3 f4 : Addr} {fd fd1 fd2 fd3 fd4 : FuncData} {c : CA}
abbrev sp_check_many : Sp := SpG (fun i : Int × Int => i.1 ≤ i.2) fun i => ([Dat (.int i.1), Dat (.int i.2)], Dat .non)
theorem ok_check_many (F : Fun K "check_many" "check_many" s_check_many f fd) : FnOk P w K mg base CX0 3 f fd ps_check_many sp_check_many := by
  refine okG F sc_check_many (fun _ => rfl) fun cdv A outer s H E hr => ⟨_, (pss_one (ps_if (pt_cmpR oGtI (pv 0) (pv 1) (nomark _))
  (pss_one ps_never)
  pss_nil)), fun i F vs Q hp R q => ?_⟩
  obtain ⟨a, b⟩ := i
  have hp' : a ≤ b := hp
  refine s_ifF R (x_test (e_gt (i := a) (j := b) (x_var rfl) (x_var rfl))) (decide_eq_false (by omega)) fun F H R => s_next ?_
  exact q _ F H R.gr .non
/-- a standing found, if it is new -/
def addB (b : Bf) (sd : SD) (i : Nat) (s : Step) : Bf := if sd ∈ b.fs then b else ⟨b.fs ++ [sd], b.ws ++ [some (i, s)]⟩
theorem add1_B (g : PG) (i : Nat) (here : SD) (b : Bf) (s : Step) : add1 g i here b s = addB b (behind g here s) i s := rfl
structure AddOk (g : PG) (b : Bf) (sd : SD) : Prop where
  st : StOk g sd
  all : ∀ a ∈ b.fs, ∃ k, SDOk g k a
  few : b.fs.length ≤ 4000
  len : b.ws.length = b.fs.length
def sp_add (P : Program) (w : World) (c : CA) : Sp := fun vs H Q _ => ∃ (g : PG) (b : Bf) (sd : SD) (i : Nat) (s : Step) (x l wl d : Addr) (F : Hp) (us : List V), vs = .ref x :: us ∧ AddOk g b sd ∧ Same F H ∧ OpS P w c g x l wl d F H b ∧ AllP F [stdP c g sd, Dat (.int (i : Int)), Dat (enc s)] us ∧
  ∀ F' H', GrE [l, wl, d] F H F' H' → OpS P w c g x l wl d F' H' (addB b sd i s) → Q .non H'
theorem k_mem {g : PG} {fs : List SD} {sd : SD} {k : Nat} (h : SDOk g k sd) (ha : ∀ a ∈ fs, ∃ k, SDOk g k a) : ((enc sd.k).key ∈ (numT fs).map (·.1.key)) ↔ sd ∈ fs := by
  rw [numT_keys]
  constructor
  · intro z
    obtain ⟨a, h1, h2⟩ := List.mem_map.mp z
    obtain ⟨k', hk⟩ := ha a h1
    rw [← k_inj hk h (key_inj.mp h2)]
    exact h1
  · exact fun z => List.mem_map.mpr ⟨sd, z, rfl⟩
theorem ok_add (F : Fun K "add" "Search.add" s_Search_add f fd) (B : Bi mg) (M : Mods mg) (OS : OwnC K c.srch srchNs) (M_Standing_key : GM P w K mg base c.std "key" ps_Standing_key 3 (sp_key c) f1 fd1) (G_check_many : GF P w K mg base "check_many" ps_check_many 3 sp_check_many f2 fd2) :
    FnOk P w K mg base CX0 4 f fd ps_Search_add (sp_add P w c) := by
  refine F.ok sc_Search_add (fun vs H Q E h => ?_) (fun cdv A outer s H vs Q E hr h => ?_)
  · obtain ⟨g, b, sd, i, st, x, l, wl, d, F, us, rfl, _, _, _, hv, _⟩ := h
    rw [List.length_cons, ← hv.len]
    rfl
  · obtain ⟨g, b, sd, i, st, x, l, wl, d, F, us, rfl, ⟨hst, hall, hfew, hlen⟩, e, os, hv, q⟩ := h
    refine ⟨_, (pss_cons (ps_set (i := 4) sc_Search_add.nd rfl (Or.inl rfl) (pe_m0 M_Standing_key (hr.mono (by decide)) (pv 1)))
  (pss_one (ps_if (pt_cmpR (oNinN (ru65 (hr.mono (by decide)))) (pv 4) (kPF (K := K) (pe_fld (pv 0) rfl) rfl) rfl)
  (pss_cons (ps_expr (pe_f G_check_many (hr.mono (by decide)) rfl (pa_cons (pe_op oAddI (pe_callB (kC (r := rLenG) (K := K) cLen rfl) (by rfl) B.len_ b_len (pa_cons (kPF (K := K) (pe_fld (pv 0) rfl) rfl) pa_nil)) pe_int) (pa_cons (pe_gint M.MOST_STANDINGS) pa_nil))))
  (pss_cons (ps_asg (pe_callB (kC (r := rLenG) (K := K) cLen rfl) (by rfl) B.len_ b_len (pa_cons (kPF (K := K) (pe_fld (pv 0) rfl) rfl) pa_nil)) (pg_sub (kPF (K := K) (pe_fld (pv 0) rfl) rfl) (pv 4) (set_dictN (ru65 (hr.mono (by decide))))))
  (pss_cons (ps_expr (pe_bm PySem.F.plainAttrs_list PySem.F.slot_list_append PySem.F.type_list_append mt_append (kPF (K := K) (pe_fld (pv 0) rfl) rfl) (pa_cons (pv 1) pa_nil)))
  (pss_one (ps_expr (pe_bm PySem.F.plainAttrs_list PySem.F.slot_list_append PySem.F.type_list_append mt_append (kPF (K := K) (pe_fld (pv 0) rfl) rfl) (pa_cons (pe_tup (pa_cons (pv 2) (pa_cons (pv 3) pa_nil))) pa_nil)))))))
  pss_nil))), ?_⟩
    obtain ⟨kk, hkk, hsd⟩ := hst.ok
    have hl0 : hids H [l, wl, d] l = none := hids_in (by simp)
    have hw0 : hids H [l, wl, d] wl = none := hids_in (by simp)
    have hd0 : hids H [l, wl, d] d = none := hids_in (by simp)
    have sl := slots_st (Ps := [Vl (.ref x), stdP c g sd, Dat (.int (i : Int)), Dat (enc st)]) (.cons rfl hv) nm_Search_add
    have R : RS F (hids H [l, wl, d]) F H (L2.start nm_Search_add (.ref x :: us)) [some (Vl (.ref x)), some (stdP c g sd), some (Dat (.int (i : Int))), some (Dat (enc st)), none] := ⟨⟨.refl _, fun b o z => hids_some z, e, fun _ _ z => z⟩, sl⟩
    have fin : ∀ {F' H' : Hp} {b' : Bf}, Gr F (hids H [l, wl, d]) F' H' → OpS P w c g x l wl d F' H' b' → GrE [l, wl, d] F H F' H' := fun gr o => gr.unhide fun a ha => by
      rcases List.mem_cons.mp ha with rfl | ha
      · exact ⟨o.fs.1, o.fs.some⟩
      rcases List.mem_cons.mp ha with rfl | ha
      · exact ⟨o.ws.1, o.ws.some⟩
      rw [List.mem_singleton.mp ha]
      exact ⟨o.ds.1, o.ds.some⟩
    refine g_asgS R (P := Dat (enc sd.k)) (x_meth (g, sd) hst (x_var (P := stdP c g sd) rfl) rfl a_nil rfl rfl) fun F H σ g1 R => ?_
    replace os := os.step g1
    refine so_if R ((slots_now R).know (j := 0) rfl (os.now R.fh)) (x_test (e_ninN (kvs := numT b.fs) (t := enc sd.k) (x_var rfl) (k_key sd) (x_fld (x_var (P := srchP P w c g b) rfl) OS (by decide +kernel) rfl))) (fun hb F H g2 R => ?_) fun hb F H g2 R => ?_
    · replace os := os.step g2
      have hn : (enc sd.k).key ∉ (numT b.fs).map (·.1.key) := fun z => by rw [decide_eq_true z] at hb; cases hb
      have hn' : sd ∉ b.fs := fun z => hn ((k_mem hsd hall).mpr z)
      have eB : addB b sd i st = ⟨b.fs ++ [sd], b.ws ++ [some (i, st)]⟩ := if_neg hn'
      rw [eB] at q
      have hlf : ((fsP c g b.fs).length : Int) = (b.fs.length : Int) := by rw [List.length_map]
      refine so_dropNowS R ((slots_now R).know (j := 0) rfl (os.now R.fh)) (t := .non) (x_call (((b.fs.length : Int) + 1, 5000) : Int × Int) (by show (b.fs.length : Int) + 1 ≤ 5000; omega) (a_cons (e_add ((e_lenL (x_fld (x_var (P := srchP P w c g b) rfl) OS (by decide +kernel) rfl)).cast (by rw [hlf])) x_int) (a_cons x_int a_nil)) rfl) trivial fun H g3 R => ?_
      replace os := os.step g3
      refine so_setDX (C := fun F H => OpS P w c g x l wl d F H b) (P := Dat (.int (b.fs.length : Int))) (fun _ _ _ _ o g => o.step g) os R os.ds hd0 (fun F H σ e s cc Q q => xo_lenL (C := fun F H => OpS P w c g x l wl d F H b) (l := l) (Qs := fsP c g b.fs) (fun _ _ _ _ o g => o.step g) (fun _ _ o => o.fs) (xo_fldO (fun _ _ _ _ o g => o.step g) (fun _ _ o => o.o) (x_var rfl) OS (by decide +kernel) rfl) F H σ e s cc Q (by rw [hlf]; exact q)) (xo_fldO (fun _ _ _ _ o g => o.step g) (fun _ _ o => o.o) (x_var rfl) OS (by decide +kernel) rfl) (x_var rfl) (k_key sd) hn (by rw [numT_len]; omega) fun F H g4 R od => ?_
      have nld := os.fs.ne_d os.ds
      have nwd := os.ws.ne_d os.ds
      have nxl := os.o.ne_l os.fs
      have nxw := os.o.ne_l os.ws
      have nxd := os.o.ne_d os.ds
      have nlw := os.ne
      have o4 := os.o.stepE (A := [d]) (by rw [List.mem_singleton]; exact nxd) g4
      have l4 := os.fs.stepE (A := [d]) (by rw [List.mem_singleton]; exact nld) g4
      have w4 := os.ws.stepE (A := [d]) (by rw [List.mem_singleton]; exact nwd) g4
      refine so_appendX (C := fun F H => Op x c.srch F H [("found", Vl (.ref l)), ("ways", Vl (.ref wl)), ("numbers", Vl (.ref d))]) (P := stdP c g sd) (fun _ _ _ _ o g => o.step g) o4 R l4 hl0 (xo_fldO (fun _ _ _ _ o g => o.step g) (fun _ _ o => o) (x_var rfl) OS (by decide +kernel) rfl) (xo (x_var rfl)) (by rw [List.length_map, sizeLine_eq]; omega) fun F H g5 R l5 => ?_
      have o5 := o4.stepE (A := [l]) (by rw [List.mem_singleton]; exact nxl) g5
      have d5 := od.stepE (A := [l]) (by rw [List.mem_singleton]; exact nld.symm) g5
      have w5 := w4.stepE (A := [l]) (by rw [List.mem_singleton]; exact nlw.symm) g5
      refine so_appendX (C := fun F H => Op x c.srch F H [("found", Vl (.ref l)), ("ways", Vl (.ref wl)), ("numbers", Vl (.ref d))]) (P := Dat (wayT (some (i, st)))) (fun _ _ _ _ o g => o.step g) o5 R w5 hw0 (xo_fldO (fun _ _ _ _ o g => o.step g) (fun _ _ o => o) (x_var rfl) OS (by decide +kernel) rfl) (xo (x_tupD (ts := [.int (i : Int), enc st]) (a_cons (x_var rfl) (a_cons (x_var rfl) a_nil)) (big (by show 2 ≤ _; decide)))) (by rw [List.length_map, sizeLine_eq]; omega) fun F H g6 R w6 => ?_
      have o6 := o5.stepE (A := [wl]) (by rw [List.mem_singleton]; exact nxw) g6
      have d6 := d5.stepE (A := [wl]) (by rw [List.mem_singleton]; exact nwd.symm) g6
      have l6 := l5.stepE (A := [wl]) (by rw [List.mem_singleton]; exact nlw) g6
      have os6 : OpS P w c g x l wl d F H ⟨b.fs ++ [sd], b.ws ++ [some (i, st)]⟩ := by
        refine ⟨o6, ?_, ?_, ?_, nlw⟩
        · show OpL l F H ((b.fs ++ [sd]).map _)
          rw [List.map_append]
          exact l6
        · show OpL wl F H ((b.ws ++ [some (i, st)]).map _)
          rw [List.map_append]
          exact w6
        · show OpD P w d F H (numT (b.fs ++ [sd]))
          rw [numT_snoc]
          exact d6
      exact q F H (fin R.gr os6) os6
    · replace os := os.step g2
      have hn' : sd ∈ b.fs := Classical.byContradiction fun z => by
        rw [decide_eq_false (fun y => z ((k_mem hsd hall).mp y))] at hb
        cases hb
      have eB : addB b sd i st = b := if_pos hn'
      rw [eB] at q
      exact s_next (q F H (fin R.gr os) os)
end
end G
namespace G
open PySem PySem.Spec PyProof.Rows L2
open Enc (enc)
section
variable {C : Hp → Hp → Prop} {K : PySem.W.Frag} {Ps PsN : Tys} {P Q1 : Ty} {te ta tb : TE} {tl : TA} {F0 H0 F H : Hp} {σ : L2.St} {D : Ends} {t2 tu : TS} {Qs : List Ty} {l d x Cl : Addr} {f : Str}
theorem at_lst (R : RS F0 H0 F H σ Ps) (h : EvA tl Ps Qs) (hl : Qs.length ≤ sizeLine) : ∀ Q : VK, (∀ v F' H', Gr F H F' H' → (∃ l, v = .ref l ∧ H l = none ∧ OpL l F' H' Qs) → Q v H') → tLst tl σ H Q := fun Q k =>
  h F H σ R.fh R.sl _ fun vs F1 H1 g1 p1 => ⟨by rw [← p1.len]; exact hl, fun p hp => k _ F1 _ (g1.trans (.open g1.fh hp)) ⟨p, rfl, g1.hh.free hp, g1.fh.free hp, vs, upd_same, p1⟩⟩
theorem at_disp {P0 : Program} {w : World} {t : T} (R : RS F0 H0 F H σ Ps) (hk : EvX ta Ps (Dat t)) (ky : Ky t) (hv : EvX tb Ps P) : ∀ Q : VK, (∀ v F' H', Gr F H F' H' → (∃ d, v = .ref d ∧ H d = none ∧ OpD P0 w d F' H' [(t, P)]) → Q v H') → tDispN P0 w ta tb σ H Q := fun Q k p hp => by
  have g0 : Gr F H F (upd H p (DctO P0 w p [])) := .open R.fh hp
  have f0 : F p = none := R.fh.free hp
  have R0 := R.step g0
  refine hk F _ σ R0.fh R0.sl _ fun x F1 H1 g1 p1 => hv F1 H1 σ g1.fh (R0.sl.up g1.ff) _ fun y F2 H2 g2 p2 => ?_
  have g12 := g1.trans g2
  have hp2 : H2 p = some (DctO P0 w p []) := g12.hh p _ upd_same
  have f2 : F2 p = none := g12.nw p (by rw [upd_same]; exact fun z => by cases z) f0
  have kr : KyR F2 x t := Ky.r ky (RT.up g2.ff _ _ p1)
  obtain ⟨⟨a, ea⟩, _⟩ := id kr
  refine ⟨hp2, F2, a, t, g2.fh, ea, kr, fun u ru => ?_⟩
  subst ea
  exact k _ F2 _ ((g0.trans g12).put hp f2) ⟨p, rfl, hp, f2, _, upd_same, .cons ⟨rfl, kr, y, p2, ru⟩ .nil⟩
/-- x.f = what is open -/
theorem so_fldX {X : V → Hp → Hp → Prop} {tfs : Flds} {fs : List Str} (R : RS F0 H0 F H σ Ps) (o : Op x Cl F H tfs) (h0 : H0 x = none) (hx : EvX ta Ps (Vl (.ref x))) (st : ∀ v F H F' H', X v F H → Gr F H F' H' → X v F' H')
    (hv : ∀ Q : VK, (∀ v F' H', Gr F H F' H' → X v F' H' → Q v H') → te σ H Q) (c : OwnC K Cl fs) (hf : f ∈ fs) (hn : tfs.length < 1000)
    (k : ∀ v F1 H1 F' H', Gr F H F1 H1 → X v F1 H1 → GrE [x] F1 H1 F' H' → RS F0 H0 F' H' σ Ps → Op x Cl F' H' (putT f (Vl v) tfs) → D.nx σ H') : sFld K ta te f D σ H :=
  hv _ fun v F1 H1 g1 p1 => hx F1 H1 σ g1.fh (R.sl.up g1.ff) _ fun u F2 H2 g2 p2 => by
    have g := g1.trans g2
    obtain ⟨q1, dx, vs, q2, q3⟩ := o.step g
    refine ⟨x, Cl, dx, vs, p2, q2, c.cl, c.na f hf, by rw [← q3.len]; exact hn, ?_⟩
    have R2 := R.step g
    exact k v F2 H2 F2 _ g (st _ _ _ _ _ p1 g2) (GrE.put g2.fh q1 q2) ⟨R2.gr.put h0 q1, R2.sl⟩ ⟨q1, dx, _, upd_same, q3.put (P := Vl v) rfl⟩
theorem xo_ixLX {n : Nat} (u : Up C) (hC : ∀ F H, C F H → OpL l F H Qs) (hj : EvXo C ta Ps (Vl (.ref l))) (hb : EvX tb Ps (Dat (.int (n : Int)))) (hn : Qs[n]? = some P) : EvXo C (tOp (rIxL K) ta tb) Ps P := fun F H σ e s c Q q =>
  hj F H σ e s c _ fun x F1 H1 g1 p1 => hb F1 H1 σ g1.fh (s.up g1.ff) _ fun y F2 H2 g2 p2 => by
    obtain ⟨_, us, k1, k2⟩ := hC _ _ (u _ _ _ _ c (g1.trans g2))
    obtain ⟨v, m1, m2⟩ := k2.get hn
    exact ⟨l, us, n, v, p1, dat_int p2, SqL.of k1, atI_nat m1, q v F2 H2 (g1.trans g2) m2⟩
/-- i += e -/
theorem so_aug {i : Nat} {a b : Int} (R : RS F0 H0 F H σ Ps) (hi : Ps[i]? = some (some (Dat (.int a)))) (h : EvX te Ps (Dat (.int b))) (k : ∀ F' H' σ', Gr F H F' H' → RS F0 H0 F' H' σ' (Ps.set i (some (Dat (.int (a + b))))) → D.nx σ' H') : tAug i te (ipI fun i j => i + j) D σ H := by
  obtain ⟨u, h1, h2⟩ := R.sl.at_ i _ hi
  refine ⟨u, h1, h F H σ R.fh R.sl _ fun v F1 H1 g1 p1 => ⟨a, b, dat_int h2, dat_int p1, k F1 H1 _ g1 ((R.step g1).set i (.int _))⟩⟩
end
/-! where the search stands still -/
theorem stopF_spec (g : PG) : ∀ (n k0 : Nat), k0 ≤ stopF g n k0 ∧ (∀ j, k0 ≤ j → j < stopF g n k0 → condB g j = true) ∧ (stopF g n k0 < k0 + n → condB g (stopF g n k0) = false) ∧ stopF g n k0 ≤ k0 + n
  | 0, k0 => ⟨Nat.le_refl _, fun j a b => absurd (Nat.lt_of_le_of_lt a b) (Nat.lt_irrefl _), fun h => absurd h (Nat.lt_irrefl _), Nat.le_refl _⟩
  | n + 1, k0 => by
    unfold stopF
    cases e : condB g k0 with
    | true =>
      rw [if_pos rfl]
      obtain ⟨h1, h2, h3, h4⟩ := stopF_spec g n (k0 + 1)
      refine ⟨by omega, fun j a b => ?_, fun h => h3 (by omega), by omega⟩
      by_cases q : j = k0
      · rw [q]; exact e
      · exact h2 j (by omega) b
    | false =>
      rw [if_neg Bool.false_ne_true]
      exact ⟨Nat.le_refl _, fun j a b => absurd (Nat.lt_of_le_of_lt a b) (Nat.lt_irrefl _), fun _ => e, by omega⟩
theorem condB_iff {g : PG} {k : Nat} : condB g k = true ↔ k < (bfs g k).fs.length ∧ (bfs g k).fs.length ≤ 250 := by
  unfold condB
  rw [Bool.and_eq_true, decide_eq_true_eq, decide_eq_true_eq]
structure SrchOk (g : PG) : Prop where
  gok : PGOk g
  wfew : g.ws.length ≤ 1000
  few : (allOf g).length ≤ 250
theorem SrchOk.before {g : PG} (_ : SrchOk g) {j : Nat} (hj : j < stopK g) : j < (bfs g j).fs.length ∧ (bfs g j).fs.length ≤ 250 := condB_iff.mp ((stopF_spec g 251 0).2.1 j (Nat.zero_le _) hj)
theorem SrchOk.le {g : PG} (h : SrchOk g) : stopK g ≤ 250 := by
  obtain ⟨h1, h2, h3, h4⟩ := stopF_spec g 251 0
  have h4' : stopK g ≤ 251 := by unfold stopK; omega
  rcases Nat.lt_or_ge (stopK g) 251 with z | z
  · omega
  · have := h.before (j := 250) (by omega)
    omega
theorem SrchOk.stop {g : PG} (h : SrchOk g) : ¬ stopK g < (allOf g).length := by
  obtain ⟨h1, h2, h3, h4⟩ := stopF_spec g 251 0
  have hl := h.le
  have h3' : condB g (stopK g) = false := h3 (by show stopK g < 0 + 251; omega)
  intro z
  have := condB_iff.mpr ⟨z, h.few⟩
  rw [this] at h3'
  cases h3'
theorem SrchOk.bf {g : PG} (h : SrchOk g) {i : Nat} (hi : i ≤ stopK g) : BfOk g (bfs g i) := bfs_ok h.gok i fun j hj => (h.before (by omega)).1
theorem SrchOk.len {g : PG} (h : SrchOk g) : stopK g = (allOf g).length := by
  have h1 := h.stop
  rcases Nat.eq_zero_or_pos (stopK g) with z | z
  · have := (h.bf (Nat.le_refl _)).pos
    unfold allOf at h1 ⊢
    omega
  · have h2 := h.before (j := stopK g - 1) (by omega)
    have h3 := (bfs_ext g (k := stopK g - 1) (l := stopK g) (by omega)).len
    unfold allOf at h1 ⊢
    omega
theorem SrchOk.leAll {g : PG} (h : SrchOk g) {i : Nat} (hi : i ≤ stopK g) : (bfs g i).fs.length ≤ 250 := Nat.le_trans (bfs_ext g hi).len h.few
theorem SrchOk.st {g : PG} (h : SrchOk g) {i j : Nat} {sd : SD} (hi : i ≤ stopK g) (hj : (bfs g i).fs[j]? = some sd) : StOk g sd := ⟨h.gok, h.wfew, j, by have := getElem?_lt hj; have := h.leAll hi; omega, (h.bf hi).ok j sd hj⟩
end G
namespace G
open PySem PySem.Spec PyProof.Rows L2
open Enc (enc)
section
variable {P : Program} {w : World} {K : PySem.W.Frag} {mg : Str → Option Value} {base : Heap} {f f1 f2 f3 f4 : Addr} {fd fd1 fd2 fd3 fd4 : FuncData} {c : CA}
/-- self.add(..), self not finished -/
theorem so_add {g : PG} {b : Bf} {sd : SD} {i : Nat} {s : Step} {x l wl d : Addr} {F0 H0 F H : Hp} {σ : L2.St} {Ps : Tys} {D : Ends} {ta : TE} {tl : TA} {E : XK} (R : RS F0 H0 F H σ Ps) (os : OpS P w c g x l wl d F H b) (hl0 : H0 l = none) (hw0 : H0 wl = none) (hd0 : H0 d = none) (hp : AddOk g b sd)
    (hx : EvX ta Ps (Vl (.ref x))) (ha : EvA tl Ps [stdP c g sd, Dat (.int (i : Int)), Dat (enc s)]) (k : ∀ F' H', RS F0 H0 F' H' σ Ps → OpS P w c g x l wl d F' H' (addB b sd i s) → D.nx σ H') : tDrop (tMeth c.srch "add" (sp_add P w c) [] E ta tl) D σ H :=
  hx F H σ R.fh R.sl _ fun v F1 H1 g1 p1 => by
    have e1 : v = .ref x := p1
    subst e1
    have os1 := os.step g1
    obtain ⟨dx, hxx⟩ := os1.vals
    refine ⟨x, dx, _, rfl, hxx, rfl, ha F1 H1 σ g1.fh (R.sl.up g1.ff) _ fun us F2 H2 g2 p2 => ?_⟩
    refine ⟨g, b, sd, i, s, x, l, wl, d, F2, us, by rw [List.append_nil], hp, g2.fh, os1.step g2, p2, fun F3 H3 ge os3 => ?_⟩
    refine k F3 H3 (((R.step g1).step g2).stepE (fun a ha => ?_) ge) os3
    rcases List.mem_cons.mp ha with rfl | ha
    · exact hl0
    rcases List.mem_cons.mp ha with rfl | ha
    · exact hw0
    rw [List.mem_singleton.mp ha]
    exact hd0
abbrev sp_Search_init (P : Program) (w : World) (c : CA) : Sp := SpN c.srch (fun g : PG => SrchOk g) fun g => ([stdP c g (first g)], srchP P w c g (bfs g (stopK g)))
theorem ok_Search_init (F : Fun K "__init__" "Search.__init__" s_Search_init f fd) (B : Bi mg) (OS : OwnC K c.srch srchNs) (M_Standing_key : GM P w K mg base c.std "key" ps_Standing_key 3 (sp_key c) f1 fd1) (M_Standing_can : GM P w K mg base c.std "can" ps_Standing_can 5 (sp_can c) f2 fd2)
    (M_Search_add : GM P w K mg base c.srch "add" ps_Search_add 4 (sp_add P w c) f3 fd3) (M_Standing_behind : GM P w K mg base c.std "behind" ps_Standing_behind 9 (sp_behind c) f4 fd4) : FnOk P w K mg base CX0 10 f fd ps_Search_init (sp_Search_init P w c) := by
  refine okN F sc_Search_init (fun _ => rfl) fun cdv A outer s H E hr => ⟨_, (pss_cons (ps_fld (pv 0) (pe_lst (pa_cons (pv 1) pa_nil)) rfl)
  (pss_cons (ps_fld (pv 0) (pe_lst (pa_cons pe_non pa_nil)) rfl)
  (pss_cons (ps_fld (pv 0) (pe_dispN (ru65 (hr.mono (by decide))) (pe_m0 M_Standing_key (hr.mono (by decide)) (pv 1)) pe_int) rfl)
  (pss_cons (ps_set (i := 2) sc_Search_init.nd rfl (Or.inl rfl) pe_int)
  (pss_one (ps_while PassesOwn.never (pt_cmpR oLtI (pv 2) (pe_callB (kC (r := rLenG) (K := K) cLen rfl) (by rfl) B.len_ b_len (pa_cons (kPF (K := K) (pe_fld (pv 0) rfl) rfl) pa_nil)) (nomark _))
  (pss_cons (ps_set (i := 3) sc_Search_init.nd rfl (Or.inl rfl) (pe_ix (kIx (r := rIxL) (K := K) ix_list rfl) (kPF (K := K) (pe_fld (pv 0) rfl) rfl) (pv 2) (fun _ _ => rfl)))
  (pss_cons (ps_for PassesOwn.never rfl (kPI (r := iList) (K := K) (pi_list (pe_m0 M_Standing_can (hr.mono (by decide)) (pv 3))) rfl) (pg_name (i := 4) sc_Search_init.nd rfl (Or.inl rfl))
  (pss_one (ps_expr (pe_m M_Search_add (hr.mono (by decide)) (pv 0) (pa_cons (pe_m M_Standing_behind (hr.mono (by decide)) (pv 3) (pa_cons (pv 4) pa_nil)) (pa_cons (pv 2) (pa_cons (pv 4) pa_nil)))))))
  (pss_one (ps_aug (i := 2) sc_Search_init.nd rfl (Or.inl rfl) pe_int ip_add)))))))))), fun g F vs Q x hp R o q => ?_⟩
  have hs : SrchOk g := hp
  have h0 : hid H x x = none := hid_same
  have hfst : StOk g (first g) := hs.st (i := 0) (j := 0) (Nat.zero_le _) rfl
  have hsome : ∀ {F H : Hp} {tfs : Flds} {C : Addr}, Op x C F H tfs → H x ≠ none := fun o z => by
    obtain ⟨_, dx, fs, h2, _⟩ := o
    rw [z] at h2
    cases h2
  -- found
  refine so_fldX (X := fun v F' H' => ∃ l, v = .ref l ∧ H l = none ∧ OpL l F' H' (fsP c g [first g])) R o h0 (x_var rfl) (fun v F H F' H' ⟨l, a, b, o⟩ gr => ⟨l, a, b, o.step gr⟩) (at_lst (Qs := fsP c g [first g]) R (a_cons (x_var (P := stdP c g (first g)) rfl) a_nil) (big (by show 1 ≤ _; decide))) OS (by decide +kernel) (of_decide_eq_true rfl) fun v Fa Ha F1 H1 ga hX ge R1 o1 => ?_
  obtain ⟨l, rfl, hl, ol⟩ := hX
  have nlx : l ≠ x := fun z => hsome o (by rw [← z]; exact hl)
  have hl0 : hid H x l = none := by rw [hid_ne nlx]; exact hl
  replace ol := ol.stepE (A := [x]) (by rw [List.mem_singleton]; exact nlx) ge
  clear ge ga
  -- ways
  refine so_fldX (X := fun v F' H' => ∃ wl, v = .ref wl ∧ H1 wl = none ∧ OpL wl F' H' (wsW [none])) R1 o1 h0 (x_var rfl) (fun v F H F' H' ⟨l, a, b, o⟩ gr => ⟨l, a, b, o.step gr⟩) (at_lst (Qs := wsW [none]) R1 (a_cons x_non a_nil) (big (by show 1 ≤ _; decide))) OS (by decide +kernel) (of_decide_eq_true rfl) fun v Fa Ha F2 H2 ga hX ge R2 o2 => ?_
  obtain ⟨wl, rfl, hwl, ow⟩ := hX
  have nwx : wl ≠ x := fun z => hsome o1 (by rw [← z]; exact hwl)
  have nlw : l ≠ wl := fun z => ol.some (by rw [z]; exact hwl)
  have hw0 : hid H x wl = none := R1.gr.hh.free hwl
  replace ow := ow.stepE (A := [x]) (by rw [List.mem_singleton]; exact nwx) ge
  replace ol := (ol.step ga).stepE (A := [x]) (by rw [List.mem_singleton]; exact nlx) ge
  clear ge ga
  -- numbers
  refine so_fldX (X := fun v F' H' => ∃ d, v = .ref d ∧ H2 d = none ∧ OpD P w d F' H' (numT [first g])) R2 o2 h0 (x_var rfl) (fun v F H F' H' ⟨l, a, b, o⟩ gr => ⟨l, a, b, o.step gr⟩) (at_disp (t := enc (first g).k) (P := Dat (.int 0)) R2 (x_meth (g, first g) hfst (x_var (P := stdP c g (first g)) rfl) rfl a_nil rfl rfl) (k_key _) x_int) OS (by decide +kernel) (of_decide_eq_true rfl) fun v Fa Ha F3 H3 ga hX ge R3 o3 => ?_
  obtain ⟨d, rfl, hd, od⟩ := hX
  have ndx : d ≠ x := fun z => hsome o2 (by rw [← z]; exact hd)
  have hd0 : hid H x d = none := R2.gr.hh.free hd
  replace od := od.stepE (A := [x]) (by rw [List.mem_singleton]; exact ndx) ge
  replace ol := (ol.step ga).stepE (A := [x]) (by rw [List.mem_singleton]; exact nlx) ge
  replace ow := (ow.step ga).stepE (A := [x]) (by rw [List.mem_singleton]; exact nwx) ge
  clear ge ga
  have os : OpS P w c g x l wl d F3 H3 (bfs g 0) := ⟨o3, ol, ow, od, nlw⟩
  refine g_asgS R3 (P := Dat (.int 0)) x_int fun F4 H4 σ4 g4 R4 => ?_
  replace os := os.step g4
  let Pt : Nat → Tys := fun i => [some (Vl (.ref x)), some (stdP c g (first g)), some (Dat (.int (i : Int))), none, none]
  have R' : RS F (hid H x) F4 H4 σ4 (Pt 0) := R4
  refine so_while (n := stopK g) (fun i σ H' => ∃ F', RS F (hid H x) F' H' σ (Pt i) ∧ OpS P w c g x l wl d F' H' (bfs g i) ∧ i ≤ stopK g) (fun i => decide (i < (bfs g i).fs.length)) ⟨F4, R', os, Nat.zero_le _⟩ ?_ ?_ ?_
  · rintro i σ H ⟨F, R, os, hi⟩ Q q
    have ht : EvT (tTest (tOp rLtI (tVar 2) (tCB (rLenG K) (tCons (tFld K (tVar 0) "found") tNil)))) ((Pt i).set 0 (some (srchP P w c g (bfs g i)))) (decide (i < (bfs g i).fs.length)) :=
      (x_test (e_lt (x_var rfl) (e_lenL (Qs := fsP c g (bfs g i).fs) (x_fld (x_var (P := srchP P w c g (bfs g i)) rfl) OS (by decide +kernel) rfl)))).cast (by
        rw [List.length_map]
        exact decide_eq_decide.mpr (by omega))
    exact now_t ht R.fh ((slots_now R).know (j := 0) rfl (os.now R.fh)) fun H' g' => q H' ⟨F, R.step g', os.step g', hi⟩
  · rintro i σ Hx ⟨Fx, R, os, hi⟩ hci
    have hlt : i < (bfs g i).fs.length := of_decide_eq_true hci
    have his : i < stopK g := by
      rcases Nat.lt_or_ge i (stopK g) with z | z
      · exact z
      · have : i = stopK g := by omega
        subst this
        exact absurd hlt hs.stop
    refine ⟨his, ?_⟩
    have hget : (bfs g i).fs[i]? = some (sdAt (bfs g i) i) := by
      unfold sdAt
      rw [List.getD_eq_getElem?_getD, List.getElem?_eq_getElem hlt]
      rfl
    have hst : StOk g (sdAt (bfs g i) i) := hs.st hi hget
    refine so_asgS (C := fun F H => OpS P w c g x l wl d F H (bfs g i)) R os (P := stdP c g (sdAt (bfs g i) i)) (xo_ixLX (l := l) (Qs := fsP c g (bfs g i).fs) (n := i) (fun _ _ _ _ o g => o.step g) (fun _ _ o => o.fs) (xo_fldO (fun _ _ _ _ o g => o.step g) (fun _ _ o => o.o) (x_var rfl) OS (by decide +kernel) rfl) (x_var rfl) (by rw [List.getElem?_map, hget]; rfl)) fun F5 H5 σ5 g5 R => ?_
    replace os := os.step g5
    let Pt2 : Nat → Tys := fun _ => [some (Vl (.ref x)), some (stdP c g (first g)), some (Dat (.int (i : Int))), some (stdP c g (sdAt (bfs g i) i)), none]
    have R5 : RS F (hid H x) F5 H5 σ5 (Pt2 0) := R
    refine s_forI (K := K) (is := [4]) (xs := can g (sdAt (bfs g i) i)) (ι := fun s => Dat (enc s)) (ts := fun s => [Dat (enc s)]) R5 (i_lst (x_meth (g, sdAt (bfs g i) i) hst (x_var (P := stdP c g (sdAt (bfs g i) i)) rfl) rfl a_nil rfl rfl)) Pt2 (fun t F H => OpS P w c g x l wl d F H (midB g i t)) rfl os (fun s _ => .one 4 _) (fun t F H F' H' o g => o.step g) (fun Fb hFb t s hts F6 H6 σ6 R os => ?_) fun F6 H6 σ6 R os => ?_
    · replace R : RS _ _ F6 H6 σ6 [some (Vl (.ref x)), some (stdP c g (first g)), some (Dat (.int (i : Int))), some (stdP c g (sdAt (bfs g i) i)), some (Dat (enc s))] := R
      have htl : t < (can g (sdAt (bfs g i) i)).length := getElem?_lt hts
      have hmem := List.mem_of_getElem? hts
      have hb1 : BfOk g (bfs g i) := hs.bf hi
      have hmid : BfOk g (midB g i t) := fold_ok hs.gok (sdAt (bfs g i) i) ((can g (sdAt (bfs g i) i)).take t) (bfs g i) hb1 hlt rfl fun s hs => List.mem_of_mem_take hs
      have hcl := can_few (g := g) (sd := sdAt (bfs g i) i)
      have hle := hs.leAll hi
      have hn4 := hs.gok.n4
      have hwf := hs.wfew
      have hfl : (midB g i t).fs.length ≤ 250 + (g.cs.length + g.ws.length) := by
        have := fold_len g i (sdAt (bfs g i) i) ((can g (sdAt (bfs g i) i)).take t) (bfs g i)
        rw [List.length_take] at this
        unfold midB
        omega
      obtain ⟨k, hk, hsd⟩ := hst.ok
      have hsdi : SDOk g i (sdAt (bfs g i) i) := hb1.ok i _ hget
      have hnew : StOk g (behind g (sdAt (bfs g i) i) s) := ⟨hs.gok, hs.wfew, i + 1, by have := hs.le; omega, behind_ok hs.gok hsdi hmem⟩
      refine so_add (sd := behind g (sdAt (bfs g i) i) s) (i := i) (s := s) (b := midB g i t) R os hl0 hw0 hd0 ⟨hnew, fun a ha => ?_, by omega, hmid.len⟩ (x_var rfl) (a_cons (x_meth (g, sdAt (bfs g i) i, s) ⟨hst, hmem⟩ (x_var (P := stdP c g (sdAt (bfs g i) i)) rfl) rfl (a_cons (x_var rfl) a_nil) rfl rfl) (a_cons (x_var rfl) (a_cons (x_var rfl) a_nil))) fun F7 H7 R os => ⟨F7, R.forget 4, ?_⟩
      · obtain ⟨j, hj⟩ := List.mem_iff_getElem?.mp ha
        exact ⟨j, hmid.ok j a hj⟩
      · show OpS P w c g x l wl d F7 H7 (midB g i (t + 1))
        rw [midB_succ hts, add1_B]
        exact os
    · rw [midB_all] at os
      refine so_aug R (i := 2) (a := (i : Int)) (b := 1) rfl x_int fun F7 H7 σ7 g7 R => ?_
      exact ⟨F7, R.forget 3, os.step g7, by omega⟩
  · rintro i σ H ⟨F, R, os, hi⟩ hci
    have hge : ¬ i < (bfs g i).fs.length := of_decide_eq_false hci
    have e : i = stopK g := by
      rcases Nat.lt_or_ge i (stopK g) with z | z
      · exact absurd (hs.before z).1 hge
      · omega
    subst e
    obtain ⟨F', k1, _, k3⟩ := os.fin R.gr h0 hl0 hw0 hd0
    exact q F' H k1 k3
end
end G
namespace G
open PySem PySem.Spec PyProof.Rows L2
open Enc (enc)
abbrev s_Search_steps_to : Stmt := inClass (top 35) 2
abbrev nm_Search_steps_to : List Str := ["self", "number", "found", "step"]
abbrev ps_Search_steps_to : List Str := ["self", "number"]
theorem sc_Search_steps_to : FnScope nm_Search_steps_to ps_Search_steps_to (defScope s_Search_steps_to) := ⟨rfl, rfl, rfl, by decide +kernel, rfl, by decide +kernel, by decide +kernel⟩
abbrev s_Search_ends : Stmt := inClass (top 35) 3
abbrev nm_Search_ends : List Str := ["self", "found", "number", "standing"]
abbrev ps_Search_ends : List Str := ["self"]
theorem sc_Search_ends : FnScope nm_Search_ends ps_Search_ends (defScope s_Search_ends) := ⟨rfl, rfl, rfl, by decide +kernel, rfl, by decide +kernel, by decide +kernel⟩
abbrev s_search : Stmt := top 36
abbrev nm_search : List Str := ["web", "program"]
abbrev ps_search : List Str := ["web", "program"]
theorem sc_search : FnScope nm_search ps_search (defScope s_search) := ⟨rfl, rfl, rfl, by decide +kernel, rfl, by decide +kernel, by decide +kernel⟩
section
variable {K : PySem.W.Frag} {Ps : Tys} {P : Ty} {te ta tk tv : TE} {tc : TT} {F0 H0 F H : Hp} {σ : L2.St} {D : Ends} {t2 tu : TS} {Qs : List Ty} {l d : Addr}
theorem so_whileE {n : Nat} (I : Nat → L2.St → Hp → Prop) (J : Nat → Bool → L2.St → Hp → Prop) (i0 : I 0 σ H) (test : ∀ i σ H, I i σ H → ∀ Q : Bool → Hp → Prop, (∀ b H', J i b σ H' → Q b H') → tc σ H Q)
    (turn : ∀ i σ H, J i true σ H → i < n ∧ tu { D with nx := I (i + 1), ct := I (i + 1), bk := t2 D } σ H) (stop : ∀ i σ H, J i false σ H → t2 D σ H) : tSeq (tWhile tc tu) t2 D σ H := by
  refine ⟨fun m σ H => ∃ i, m = n - i ∧ I i σ H, ⟨n, 0, rfl, i0⟩, ?_⟩
  rintro m σ H ⟨i, rfl, h⟩
  refine test i σ H h _ fun b H' h' => ?_
  cases b with
  | true =>
    obtain ⟨h1, h2⟩ := turn i σ H' h'
    rw [if_pos rfl]
    exact ⟨I (i + 1), fun σ2 H2 p => ⟨n - (i + 1), by omega, i + 1, rfl, p⟩, h2⟩
  | false =>
    rw [if_neg Bool.false_ne_true]
    exact stop i σ H' h'
theorem g_unp {is : List Nat} {n : Nat} (R : RS F0 H0 F H σ Ps) (h : EvX te Ps (TupP Qs)) (hn : Qs.length = n) (hl : is.length = n) (k : ∀ F' H' σ', Gr F H F' H' → RS F0 H0 F' H' σ' (setsT Ps is Qs) → t2 D σ' H') : tSeq (tAsg te (gTup K n (gNs is))) t2 D σ H :=
  h F H σ R.fh R.sl _ fun v F1 H1 g1 ⟨a, xs, h1, h2, h3⟩ =>
    ⟨a, xs, h1, SqT.of (g1.fh _ _ h2), by rw [← h3.len, hn], gNs_ok (by rw [← h3.len, hn, hl]) (k F1 H1 _ g1 ⟨R.gr.trans g1, (R.step g1).sl.sets h3⟩)⟩
theorem KR.rel : ∀ {xs : Ents} {kvs : List (T × Ty)}, KR F xs kvs → ∀ z ∈ xs, ∃ r, RelV r z.2.2
  | _, _, .nil => fun z hz => by cases hz
  | _, _, .cons h t => fun z hz => by
    rcases List.mem_cons.mp hz with rfl | hz
    · obtain ⟨_, _, v, _, rv⟩ := h
      exact ⟨v, rv⟩
    · exact KR.rel t z hz
theorem so_setd {P0 : Program} {w : World} {t : T} {kvs : List (T × Ty)} (R : RS F0 H0 F H σ Ps) (o : OpD P0 w d F H kvs) (h0 : H0 d = none) (hd : EvX ta Ps (Vl (.ref d))) (hk : EvX tk Ps (Dat t)) (ky : Ky t) (hv : EvX tv Ps P) (hl : kvs.length < 100000)
    (k1 : t.key ∈ kvs.map (·.1.key) → ∀ F' H', RS F0 H0 F' H' σ Ps → OpD P0 w d F' H' kvs → D.nx σ H')
    (k2 : t.key ∉ kvs.map (·.1.key) → ∀ F' H', RS F0 H0 F' H' σ Ps → OpD P0 w d F' H' (kvs ++ [(t, P)]) → D.nx σ H') : tDrop (tSetdN P0 w ta (tCons tk (tCons tv tNil))) D σ H :=
  hd F H σ R.fh R.sl _ fun x F1 H1 g1 p1 => by
    have e1 : x = .ref d := p1
    subst e1
    obtain ⟨_, xs1, h11, _⟩ := o.step g1
    refine ⟨⟨d, xs1, rfl, h11⟩, hk F1 H1 σ g1.fh (R.sl.up g1.ff) _ fun y F2 H2 g2 p2 => hv F2 H2 σ g2.fh (R.sl.up (g1.ff.trans g2.ff)) _ fun z F3 H3 g3 p3 => ?_⟩
    have g := (g1.trans g2).trans g3
    have o3 := o.step g
    obtain ⟨f3, xs, m1, m2⟩ := id o3
    have kr : KyR F3 y t := Ky.r ky (RT.up g3.ff _ _ p2)
    obtain ⟨⟨a, ea⟩, _⟩ := id kr
    subst ea
    refine ⟨F3, d, xs, t, a, z, g3.fh, rfl, m1, m2.ok, rfl, kr, by rw [← m2.len]; exact hl, fun b u hat => ?_, fun hn u ru => ?_⟩
    · have hm := at_mem hat
      have hin : t.key ∈ kvs.map (·.1.key) := by
        rw [← m2.keys]
        exact List.mem_map.mpr ⟨_, hm, rfl⟩
      have hr : ∃ r, RelV r u := KR.rel m2 _ hm
      obtain ⟨r, rr⟩ := hr
      exact ⟨r, rr, k1 hin F3 H3 (R.step g) o3⟩
    · have gp : GrE [d] F3 H3 F3 (upd H3 d (DctO P0 w d (xs ++ [(t.key, a, u)]))) := GrE.put g3.fh f3 m1
      have ge := (GrE.of (A := [d]) g).trans gp
      exact k2 (by rw [← m2.keys]; exact hn) F3 _ (R.stepE (fun b hb => by rw [List.mem_singleton.mp hb]; exact h0) ge) ⟨f3, _, upd_same, KR.snoc ⟨rfl, kr, z, p3, ru⟩ m2⟩
theorem so_dnewS {P0 : Program} {w : World} {i : Nat} (R : RS F0 H0 F H σ Ps) (k : ∀ d F' H' σ', Gr F H F' H' → H0 d = none → RS F0 H0 F' H' σ' (Ps.set i (some (Vl (.ref d)))) → OpD P0 w d F' H' [] → t2 D σ' H') : tSeq (tAsg (tDNewN P0 w) (gName i)) t2 D σ H := fun p hp =>
  k p F _ _ (.open R.fh hp) (R.gr.hh.free hp) ((R.step (.open R.fh hp)).set i (P := Vl (.ref p)) rfl) ⟨R.fh.free hp, [], upd_same, .nil⟩
theorem so_finD {P0 : Program} {w : World} {kvs : List (T × Ty)} {j : Nat} (R : RS F0 H0 F H σ Ps) (o : OpD P0 w d F H kvs) (h0 : H0 d = none) (hj : Ps[j]? = some (some (Vl (.ref d)))) : ∃ F', RS F0 H0 F' H σ (Ps.set j (some (DctP P0 w kvs))) := by
  obtain ⟨F', h1, h2, h3⟩ := o.done R.gr h0
  have R' : RS F0 H0 F' H σ Ps := ⟨h1, R.sl.up h2⟩
  exact ⟨F', R'.know hj h3⟩
end
section
variable {P : Program} {w : World} {K : PySem.W.Frag} {mg : Str → Option Value} {base : Heap} {f f1 f2 f3 f4 : Addr} {fd fd1 fd2 fd3 fd4 : FuncData} {c : CA}
structure ToOk (g : PG) (b : Bf) (n : Nat) : Prop where
  ok : BfOk g b
  at_ : n < b.fs.length
  few : b.fs.length ≤ 1000
abbrev sp_steps_to (P : Program) (w : World) (c : CA) : Sp := SpG (fun i : PG × Bf × Nat => ToOk i.1 i.2.1 i.2.2) fun i => ([srchP P w c i.1 i.2.1, Dat (.int (i.2.2 : Int))], LstP ((pathTo i.2.1 i.2.2).map fun s => Dat (enc s)))
theorem ok_steps_to (F : Fun K "steps_to" "Search.steps_to" s_Search_steps_to f fd) (OS : OwnC K c.srch srchNs) : FnOk P w K mg base CX0 3 f fd ps_Search_steps_to (sp_steps_to P w c) := by
  refine okG F sc_Search_steps_to (fun _ => rfl) fun cdv A outer s H E hr => ⟨_, (pss_cons (ps_set (i := 2) sc_Search_steps_to.nd rfl (Or.inl rfl) (pe_lst pa_nil))
  (pss_cons (ps_while PassesOwn.never (pt_cmpR oNotN (pe_ix (kIx (r := rIxL) (K := K) ix_list rfl) (kPF (K := K) (pe_fld (pv 0) rfl) rfl) (pv 1) (fun _ _ => rfl)) pe_non (nomark _))
  (pss_cons (ps_asg (pe_ix (kIx (r := rIxL) (K := K) ix_list rfl) (kPF (K := K) (pe_fld (pv 0) rfl) rfl) (pv 1) (fun _ _ => rfl)) (kPG (K := K) (pg_tup (n := 2) rfl (pgs_cons (pg_name (i := 1) sc_Search_steps_to.nd rfl (Or.inl rfl)) (pgs_cons (pg_name (i := 3) sc_Search_steps_to.nd rfl (Or.inl rfl)) pgs_nil))) rfl))
  (pss_one (ps_expr (pe_bm PySem.F.plainAttrs_list PySem.F.slot_list_append PySem.F.type_list_append mt_append (pv 2) (pa_cons (pv 3) pa_nil))))))
  (pss_one (ps_ret (pe_revL (pv 2)))))), fun i F vs Q hp R q => ?_⟩
  obtain ⟨g, b, n⟩ := i
  obtain ⟨hb, hn, hfew⟩ : ToOk g b n := hp
  replace q : ∀ v F' H', Gr F H F' H' → (LstP ((pathTo b n).map fun s => Dat (enc s))).p F' v → Q v H' := q
  refine so_lstS (Qs := []) R a_nil (Nat.zero_le _) fun l F1 H1 σ gl hl R ol => ?_
  let Pt : Nat → Tys := fun m => [some (srchP P w c g b), some (Dat (.int (m : Int))), some (Vl (.ref l)), none]
  let In : Nat → Option (Nat × Step) → L2.St → Hp → Prop := fun i wy σ H' => ∃ F' m acc, RS F H F' H' σ (Pt m) ∧ OpL l F' H' ((acc : List Step).map fun s => Dat (enc s)) ∧ m + i ≤ n ∧ m < b.fs.length ∧ acc.length = i ∧ back b.ws (n + 1) n = acc ++ back b.ws (m + 1) m ∧ b.ws[m]? = some wy
  have hws : ∀ m, m < b.fs.length → ∃ wy, b.ws[m]? = some wy := fun m hm => ⟨_, List.getElem?_eq_getElem (by rw [hb.len]; exact hm)⟩
  refine so_whileE (n := n + 1) (fun i σ H' => ∃ wy, In i wy σ H') (fun i t σ H' => ∃ wy, In i wy σ H' ∧ t = wy.isSome) ?_ ?_ ?_ ?_
  · obtain ⟨wy, hwy⟩ := hws n hn
    exact ⟨wy, F1, n, [], R, ol, Nat.le_refl _, hn, rfl, rfl, hwy⟩
  · rintro i σ H2 ⟨wy, F2, m, acc, R, ol, h1, h2, h3, h4, h5⟩ Q q
    have hx : EvX (tOp (rIxL K) (tFld K (tVar 0) "ways") (tVar 1)) (Pt m) (Dat (wayT wy)) := x_ixL (n := m) (x_fld (x_var (P := srchP P w c g b) rfl) OS (by decide +kernel) rfl) (x_var rfl) (by rw [List.getElem?_map, h5]; rfl)
    have ht : EvT (tTest (tOp rNotNon (tOp (rIxL K) (tFld K (tVar 0) "ways") (tVar 1)) (tC .non))) (Pt m) wy.isSome := by
      cases wy with
      | none => exact x_test (e_notN (b := true) hx fun F v p => by rw [dat_non p]; rfl)
      | some q => exact x_test (e_notN (b := false) hx fun F v hv => by obtain ⟨a, xs, rfl, _⟩ := dat_tup.mp hv; rfl)
    exact ht F2 H2 σ R.fh R.sl _ fun F3 H3 g3 => q _ H3 ⟨wy, ⟨F3, m, acc, R.step g3, ol.step g3, h1, h2, h3, h4, h5⟩, rfl⟩
  · rintro i σ H2 ⟨wy, ⟨F2, m, acc, R, ol, h1, h2, h3, h4, h5⟩, ht⟩
    cases wy with
    | none => cases ht
    | some ps =>
      obtain ⟨p, s⟩ := ps
      refine ⟨by omega, ?_⟩
      obtain ⟨k1, k2, k3, k4⟩ := back_way hb h2 h5
      have hbk : back b.ws (m + 1) m = s :: back b.ws (p + 1) p := by
        have q : back b.ws (m + 1) m = s :: back b.ws m p := by
          show (match b.ws.getD m none with | none => [] | some (p, s) => s :: back b.ws m p) = _
          rw [List.getD_eq_getElem?_getD, h5]
          rfl
        rw [q, back_fuel hb m (p + 1) p (by omega) k1 (by omega)]
      refine g_unp (is := [1, 3]) (Qs := [Dat (.int (p : Int)), Dat (enc s)]) R (ev_untup (ts := [.int (p : Int), enc s]) (x_ixL (n := m) (P := Dat (wayT (some (p, s)))) (x_fld (x_var (P := srchP P w c g b) rfl) OS (by decide +kernel) rfl) (x_var rfl) (by rw [List.getElem?_map, h5]; rfl))) rfl rfl fun F3 H3 σ3 g3 R => ?_
      refine so_append (P := Dat (enc s)) R (ol.step g3) hl (x_var rfl) (x_var rfl) (by rw [List.length_map, sizeLine_eq]; omega) fun F4 H4 g4 R ol => ?_
      obtain ⟨wy, hwy⟩ := hws p (by omega)
      refine ⟨wy, F4, p, acc ++ [s], R.forget 3, by rw [List.map_append]; exact ol, by omega, by omega, by rw [List.length_append, h3]; rfl, by rw [h4, hbk, List.append_assoc]; rfl, hwy⟩
  · rintro i σ H2 ⟨wy, ⟨F2, m, acc, R, ol, h1, h2, h3, h4, h5⟩, ht⟩
    cases wy with
    | some ps => cases ht
    | none =>
      have hbk : back b.ws (m + 1) m = [] := by
        show (match b.ws.getD m none with | none => [] | some (p, s) => s :: back b.ws m p) = _
        rw [List.getD_eq_getElem?_getD, h5]
        rfl
      rw [hbk, List.append_nil] at h4
      obtain ⟨F', R2⟩ := so_fin (j := 2) R ol hl rfl
      refine s_ret R2 (P := LstP ((pathTo b n).map fun s => Dat (enc s))) ((x_revL (x_var (P := LstP (acc.map fun s => Dat (enc s))) rfl)).cast ?_) q
      unfold pathTo
      rw [h4, List.map_reverse]
/-! ends -/
abbrev ocKv (l : List (Oc × Nat)) : List (T × Ty) := l.map fun e => (enc e.1, Dat (.int (e.2 : Int)))
theorem oc_ky (o : Oc) : Ky (enc o) := ⟨⟨_, rfl⟩, by rw [key_dep]; exact Nat.le_trans (Enc.dep_le o) (by decide)⟩
structure EndsOk2 (g : PG) (b : Bf) : Prop where
  st : ∀ sd ∈ b.fs, StOk g sd
  few : b.fs.length ≤ 1000
theorem enum_nums {c : CA} {g : PG} {fs : List SD} : ((List.zip ((List.range (fsP c g fs).length).map fun (k : Nat) => Dat (.int (k : Int))) (fsP c g fs)).map fun p => TupP [p.1, p.2]) = (nums fs).map fun q => TupP [Dat (.int (q.1 : Int)), stdP c g q.2] := by
  unfold nums
  rw [List.length_map, List.zip_map, List.map_map]
  rfl
theorem addE_len (g : PG) (acc : List (Oc × Nat)) (q : Nat × SD) : (addE g acc q).length ≤ acc.length + 1 := by
  unfold addE
  split
  · split
    · omega
    · simp
  · omega
theorem foldE_len (g : PG) : ∀ (l : List (Nat × SD)) (acc : List (Oc × Nat)), (l.foldl (addE g) acc).length ≤ acc.length + l.length
  | [], acc => Nat.le_refl _
  | q :: l, acc => by
    have h1 := foldE_len g l (addE g acc q)
    have h2 := addE_len g acc q
    show (l.foldl (addE g) (addE g acc q)).length ≤ _
    rw [List.length_cons]
    omega
theorem oc_mem {acc : List (Oc × Nat)} {o : Oc} : ((enc o).key ∈ (ocKv acc).map (·.1.key)) ↔ o ∈ acc.map (·.1) := by
  rw [List.map_map]
  constructor
  · intro z
    obtain ⟨e, h1, h2⟩ := List.mem_map.mp z
    exact List.mem_map.mpr ⟨e, h1, key_inj.mp h2⟩
  · intro z
    obtain ⟨e, h1, h2⟩ := List.mem_map.mp z
    exact List.mem_map.mpr ⟨e, h1, by rw [← h2]; rfl⟩
abbrev sp_ends (P : Program) (w : World) (c : CA) : Sp := SpG (fun i : PG × Bf => EndsOk2 i.1 i.2) fun i => ([srchP P w c i.1 i.2], DctP P w (ocKv (endsD i.1 (nums i.2.fs))))
theorem ok_ends (F : Fun K "ends" "Search.ends" s_Search_ends f fd) (B : Bi mg) (OS : OwnC K c.srch srchNs) (M_Standing_is_ended : GM P w K mg base c.std "is_ended" ps_Standing_is_ended 5 (sp_is_ended c) f1 fd1) (M_Standing_outcome : GM P w K mg base c.std "outcome" ps_Standing_outcome 3 (sp_outcome c) f2 fd2) :
    FnOk P w K mg base CX0 6 f fd ps_Search_ends (sp_ends P w c) := by
  refine okG F sc_Search_ends (fun _ => rfl) fun cdv A outer s H E hr => ⟨_, (pss_cons (ps_set (i := 1) sc_Search_ends.nd rfl (Or.inl rfl) pe_dnewN)
  (pss_cons (ps_for PassesOwn.never rfl (kPI (r := iEnum) (K := K) (pi_enum rfl B.enumerate_ (pa_cons (kPF (K := K) (pe_fld (pv 0) rfl) rfl) pa_nil)) rfl) (kPG (K := K) (pg_tup (n := 2) rfl (pgs_cons (pg_name (i := 2) sc_Search_ends.nd rfl (Or.inl rfl)) (pgs_cons (pg_name (i := 3) sc_Search_ends.nd rfl (Or.inl rfl)) pgs_nil))) rfl)
  (pss_one (ps_if (pt_val (pe_m0 M_Standing_is_ended (hr.mono (by decide)) (pv 3)))
  (pss_one (ps_expr (pe_setdN (ru65 (hr.mono (by decide))) (pv 1) (pa_cons (pe_m0 M_Standing_outcome (hr.mono (by decide)) (pv 3)) (pa_cons (pv 2) pa_nil)))))
  pss_nil)))
  (pss_one (ps_ret (pv 1))))), fun i F vs Q hp R q => ?_⟩
  obtain ⟨g, b⟩ := i
  obtain ⟨hst, hfew⟩ : EndsOk2 g b := hp
  replace q : ∀ v F' H', Gr F H F' H' → (DctP P w (ocKv (endsD g (nums b.fs)))).p F' v → Q v H' := q
  refine so_dnewS (P0 := P) (w := w) R fun d F1 H1 σ gd hd R od => ?_
  let Pt : Nat → Tys := fun _ => [some (srchP P w c g b), some (Vl (.ref d)), none, none]
  have R' : RS F H F1 H1 σ (Pt 0) := R
  have hnl : (nums b.fs).length ≤ 1000 := by unfold nums; rw [List.length_zip, List.length_range]; omega
  refine s_forI (K := K) (is := [2, 3]) (xs := nums b.fs) (ι := fun q => TupP [Dat (.int (q.1 : Int)), stdP c g q.2]) (ts := fun q => [Dat (.int (q.1 : Int)), stdP c g q.2]) R' (by rw [← enum_nums]; exact i_enumL (x_fld (x_var (P := srchP P w c g b) rfl) OS (by decide +kernel) rfl)) Pt (fun t F H => OpD P w d F H (ocKv (((nums b.fs).take t).foldl (addE g) []))) rfl od (fun q _ => .tup 2 [2, 3] _ rfl rfl) (fun t F H F' H' o gr => o.step gr) (fun Fb hFb t qq hqq F2 H2 σ2 R od => ?_) fun F2 H2 σ2 R od => ?_
  · obtain ⟨n, sd⟩ := qq
    replace R : RS _ _ F2 H2 σ2 [some (srchP P w c g b), some (Vl (.ref d)), some (Dat (.int (n : Int))), some (stdP c g sd)] := R
    have hsd : StOk g sd := hst sd (List.of_mem_zip (List.mem_of_getElem? hqq)).2
    have hlen : (((nums b.fs).take t).foldl (addE g) []).length ≤ 1000 := by
      have := foldE_len g ((nums b.fs).take t) []
      rw [List.length_take] at this
      simp only [List.length_nil] at this
      omega
    have hstep : ((nums b.fs).take (t + 1)).foldl (addE g) [] = addE g (((nums b.fs).take t).foldl (addE g) []) (n, sd) := by
      rw [List.take_add_one, hqq, List.foldl_append]
      rfl
    generalize hacc : ((nums b.fs).take t).foldl (addE g) [] = acc at od hlen hstep
    have fin : ∀ {F3 H3 : Hp}, RS Fb H F3 H3 σ2 [some (srchP P w c g b), some (Vl (.ref d)), some (Dat (.int (n : Int))), some (stdP c g sd)] → OpD P w d F3 H3 (ocKv (addE g acc (n, sd))) → ∃ F, RS Fb H F H3 σ2 (Pt (t + 1)) ∧ OpD P w d F H3 (ocKv (((nums b.fs).take (t + 1)).foldl (addE g) [])) := fun R o => ⟨_, (R.forget 2).forget 3, by rw [hstep]; exact o⟩
    have ht : EvT (tB (tMeth c.std "is_ended" (sp_is_ended c) [] E0 (tVar 3) tNil)) [some (srchP P w c g b), some (Vl (.ref d)), some (Dat (.int (n : Int))), some (stdP c g sd)] (ended g sd) := x_tB (x_meth (g, sd) hsd (x_var (P := stdP c g sd) rfl) rfl a_nil rfl rfl)
    cases he : ended g sd with
    | true =>
      refine g_ifT R ht he fun F3 H3 g3 R3 => ?_
      refine so_setd (P := Dat (.int (n : Int))) (t := enc (outc sd)) R3 (od.step g3) hd (x_var rfl) (x_meth (g, sd) hsd (x_var (P := stdP c g sd) rfl) rfl a_nil rfl rfl) (oc_ky _) (x_var rfl) (by rw [List.length_map]; omega) (fun hin F4 H4 R4 o4 => fin R4 ?_) fun hin F4 H4 R4 o4 => fin R4 ?_
      · have e : addE g acc (n, sd) = acc := by
          unfold addE
          rw [if_pos he, if_pos (oc_mem.mp hin)]
        rw [e]
        exact o4
      · have e : addE g acc (n, sd) = acc ++ [(outc sd, n)] := by
          unfold addE
          rw [if_pos he, if_neg (fun z => hin (oc_mem.mpr z))]
        rw [e]
        show OpD P w d F4 H4 (List.map _ (acc ++ [(outc sd, n)]))
        rw [List.map_append]
        exact o4
    | false =>
      refine g_ifF R ht he fun F3 H3 g3 R3 => s_next (fin R3 ?_)
      have e : addE g acc (n, sd) = acc := by
        unfold addE
        rw [if_neg (by show ¬ ended g sd = true; rw [he]; exact Bool.false_ne_true)]
      rw [e]
      exact od.step g3
  · rw [List.take_of_length_le (by omega)] at od
    obtain ⟨F', R2⟩ := so_finD (j := 1) R od hd rfl
    exact s_nx (s_ret R2 (x_var (P := DctP P w (ocKv (endsD g (nums b.fs)))) rfl) q)
/-! search -/
abbrev bfsOf (g : PG) : Bf := bfs g (stopK g)
abbrev sp_search (P : Program) (w : World) (c : CA) : Sp := SpG (fun g : PG => SrchOk g) fun g => ([webP c g, progP c g], srchP P w c g (bfsOf g))
theorem ok_search (F : Fun K "search" "search" s_search f fd) (C_Search : GK P w K mg base "Search" c.srch ["self", "first"] 10 (SpN c.srch (fun g : PG => SrchOk g) fun g => ([stdP c g (first g)], srchP P w c g (bfs g (stopK g)))) f1 fd1) (G_first_standing : GF P w K mg base "first_standing" ["web", "program"] 5 (SpG (fun g : PG => PGOk g ∧ g.ws.length ≤ 1000) fun g => ([webP c g, progP c g], stdP c g (first g))) f2 fd2) :
    FnOk P w K mg base CX0 12 f fd ps_search (sp_search P w c) := by
  refine okG F sc_search (fun _ => rfl) fun cdv A outer s H E hr => ⟨_, (pss_one (ps_ret (pe_k C_Search (hr.mono (by decide)) rfl (pa_cons (pe_f G_first_standing (hr.mono (by decide)) rfl (pa_cons (pv 0) (pa_cons (pv 1) pa_nil))) pa_nil)))), fun g F vs Q hp R q => ?_⟩
  have hs : SrchOk g := hp
  exact s_ret R (x_make g hs (a_cons (x_call g ⟨hs.gok, hs.wfew⟩ (a_cons (x_var rfl) (a_cons (x_var rfl) a_nil)) rfl) a_nil) rfl) q
end
end G
namespace G
open PySem PySem.Spec PyProof.Rows L2
open Enc (enc)
abbrev s_check_program : Stmt := top 30
abbrev nm_check_program : List Str := ["web", "program"]
abbrev ps_check_program : List Str := ["web", "program"]
theorem sc_check_program : FnScope nm_check_program ps_check_program (defScope s_check_program) := ⟨rfl, rfl, rfl, by decide +kernel, rfl, by decide +kernel, by decide +kernel⟩
abbrev s_outcomes_of : Stmt := top 37
abbrev nm_outcomes_of : List Str := ["web", "program"]
abbrev ps_outcomes_of : List Str := ["web", "program"]
theorem sc_outcomes_of : FnScope nm_outcomes_of ps_outcomes_of (defScope s_outcomes_of) := ⟨rfl, rfl, rfl, by decide +kernel, rfl, by decide +kernel, by decide +kernel⟩
abbrev s_is_outcome : Stmt := top 38
abbrev nm_is_outcome : List Str := ["program", "thing", "told", "number"]
abbrev ps_is_outcome : List Str := ["program", "thing"]
theorem sc_is_outcome : FnScope nm_is_outcome ps_is_outcome (defScope s_is_outcome) := ⟨rfl, rfl, rfl, by decide +kernel, rfl, by decide +kernel, by decide +kernel⟩
abbrev s_outcomes : Stmt := top 39
abbrev nm_outcomes : List Str := ["web", "program"]
abbrev ps_outcomes : List Str := ["web", "program"]
theorem sc_outcomes : FnScope nm_outcomes ps_outcomes (defScope s_outcomes) := ⟨rfl, rfl, rfl, by decide +kernel, rfl, by decide +kernel, by decide +kernel⟩
abbrev s_run_to : Stmt := top 40
abbrev nm_run_to : List Str := ["web", "program", "outcome", "found", "ends"]
abbrev ps_run_to : List Str := ["web", "program", "outcome"]
theorem sc_run_to : FnScope nm_run_to ps_run_to (defScope s_run_to) := ⟨rfl, rfl, rfl, by decide +kernel, rfl, by decide +kernel, by decide +kernel⟩
abbrev s_stuck : Stmt := top 41
abbrev nm_stuck : List Str := ["web", "program", "found", "number", "standing"]
abbrev ps_stuck : List Str := ["web", "program"]
theorem sc_stuck : FnScope nm_stuck ps_stuck (defScope s_stuck) := ⟨rfl, rfl, rfl, by decide +kernel, rfl, by decide +kernel, by decide +kernel⟩
abbrev s_many_standings : Stmt := top 42
abbrev nm_many_standings : List Str := ["web", "program"]
abbrev ps_many_standings : List Str := ["web", "program"]
theorem sc_many_standings : FnScope nm_many_standings ps_many_standings (defScope s_many_standings) := ⟨rfl, rfl, rfl, by decide +kernel, rfl, by decide +kernel, by decide +kernel⟩
section
variable {P : Program} {w : World} {K : PySem.W.Frag} {mg : Str → Option Value} {base : Heap} {f f1 f2 f3 f4 f5 : Addr} {fd fd1 fd2 fd3 fd4 fd5 : FuncData} {c : CA}
abbrev sp_check_program (c : CA) : Sp := SpG (fun _ : PG => True) fun g => ([webP c g, progP c g], Dat .non)
theorem ok_check_program (F : Fun K "check_program" "check_program" s_check_program f fd) (B : Bi mg) (O : Own4 K c) : FnOk P w K mg base CX0 3 f fd ps_check_program (sp_check_program c) := by
  refine okG F sc_check_program (fun _ => rfl) fun cdv A outer s H E hr => ⟨_, (pss_one (ps_if (pt_cmpR oNeS (kPF (K := K) (pe_fld (pv 0) rfl) rfl) (pe_callB (kC (r := rLenG) (K := K) cLen rfl) (by rfl) B.len_ b_len (pa_cons (kPF (K := K) (pe_fld (pv 1) rfl) rfl) pa_nil)) (nomark _))
  (pss_one ps_never)
  pss_nil)), fun g F vs Q hp R q => ?_⟩
  refine s_ifF R (x_test (e_neI (f_machines O (x_var rfl)) (e_csLen (f_codes O (x_var rfl))))) (by simp) fun F H R => s_next ?_
  exact q _ F H R.gr .non
/-! outcomes -/
def endsG (g : PG) : List (Oc × Nat) := endsD g (nums (bfsOf g).fs)
def dueG (g : PG) : List Oc := srt (once (outsOf g.cs (allOf g)))
theorem SrchOk.ends2 {g : PG} (h : SrchOk g) : EndsOk2 g (bfsOf g) := ⟨fun sd hsd => by
  obtain ⟨j, hj⟩ := List.mem_iff_getElem?.mp hsd
  exact h.st (Nat.le_refl _) hj, Nat.le_trans h.few (by decide)⟩
theorem outs_mem {g : PG} {fs : List SD} {o : Oc} : o ∈ outsOf g.cs fs ↔ ∃ q ∈ nums fs, ended g q.2 = true ∧ outc q.2 = o := by
  unfold outsOf
  constructor
  · intro h
    obtain ⟨sd, h1, h2⟩ := List.mem_map.mp h
    obtain ⟨h3, h4⟩ := List.mem_filter.mp h1
    obtain ⟨j, hj⟩ := List.mem_iff_getElem?.mp h3
    exact ⟨(j, sd), mem_nums.mpr hj, h4, h2⟩
  · rintro ⟨q, h1, h2, h3⟩
    exact List.mem_map.mpr ⟨q.2, List.mem_filter.mpr ⟨List.mem_of_getElem? (mem_nums.mp h1), h2⟩, h3⟩
theorem ends_mem {g : PG} {o : Oc} : o ∈ (endsG g).map (·.1) ↔ o ∈ outsOf g.cs (allOf g) := by
  rw [outs_mem]
  exact (endsD_ok g (nums (bfsOf g).fs)).mem o
theorem due_eq (g : PG) : srt ((endsG g).map (·.1)) = dueG g := srt_eq (endsD_ok g (nums (bfsOf g).fs)).nd (once_nd _) fun o => by rw [ends_mem, once_mem]
theorem due_mem {g : PG} {o : Oc} : o ∈ dueG g ↔ o ∈ (endsG g).map (·.1) := by
  unfold dueG
  rw [(srt_perm _).mem_iff, once_mem, ends_mem]
theorem SrchOk.oc_len {g : PG} (h : SrchOk g) {o : Oc} (ho : o ∈ (endsG g).map (·.1)) : o.length = g.cs.length := by
  obtain ⟨q, h1, h2, h3⟩ := outs_mem.mp (ends_mem.mp ho)
  rw [← h3]
  unfold outc
  rw [List.length_map]
  exact (h.ends2.st q.2 (List.mem_of_getElem? (mem_nums.mp h1))).len
theorem SrchOk.oc_ne {g : PG} (h : SrchOk g) {o : Oc} (ho : o ∈ (endsG g).map (·.1)) : o ≠ [] := fun z => by
  have := h.oc_len ho
  have h1 := h.gok.n1
  rw [z] at this
  simp at this
  omega
theorem endsG_len (g : PG) (h : SrchOk g) : (endsG g).length ≤ 250 := by
  have := foldE_len g (nums (bfsOf g).fs) []
  have h2 : (nums (bfsOf g).fs).length ≤ 250 := by
    unfold nums
    rw [List.length_zip, List.length_range, Nat.min_self]
    exact h.few
  simp only [List.length_nil] at this
  unfold endsG endsD
  omega
/-! a new list, open -/
def EvF (te : TE) (Ps : Tys) (Qs : List Ty) : Prop := ∀ F H σ, Same F H → Slots F σ Ps → ∀ Q : VK, (∀ l F' H', Gr F H F' H' → H l = none → OpL l F' H' Qs → Q (.ref l) H') → te σ H Q
def SpL {ι : Type} (pre : ι → Prop) (io : ι → List Ty × List Ty) : Sp := fun vs H Q _ => ∃ i F, pre i ∧ Same F H ∧ AllP F (io i).1 vs ∧ ∀ l F' H', Gr F H F' H' → H l = none → OpL l F' H' (io i).2 → Q (.ref l) H'
theorem okL {ι : Type} {pre : ι → Prop} {io : ι → List Ty × List Ty} {x qual : Str} {st : Stmt} {N ps : List Str} {k : Nat} (F : Fun K x qual st f fd) (S : FnScope N ps (defScope st)) (len : ∀ i, (io i).1.length = ps.length)
    (hbody : ∀ (cdv : Value) (A : Around) (outer : List Env) (s : Shared) (H : Hp) (E : XK), Room k (A.deeper (envOfC qual (defScope st) s.heap.objs.size f cdv)) →
      ∃ t, PSs (cxOf CX0 P w K mg base N qual (defScope st) f cdv A outer s H E).nox (defBody st) t ∧
        ∀ i F vs Q, pre i → RS F H F H (start N vs) (stT N (io i).1) → (∀ l F' H', Gr F H F' H' → H l = none → OpL l F' H' (io i).2 → Q (.ref l) H') → t { nx := fun _ H' => Q .non H', rt := Q } (start N vs) H) : FnOk P w K mg base CX0 (k + 1) f fd ps (SpL pre io) := by
  refine F.ok S (fun vs H Q E h => ?_) (fun cdv A outer s H vs Q E hr h => ?_)
  · obtain ⟨i, F, _, _, hv, _⟩ := h
    rw [← hv.len, len]
  · obtain ⟨i, F, hp, e, hv, q⟩ := h
    obtain ⟨t, d, r⟩ := hbody cdv A outer s H E hr
    exact ⟨t, d, r i F vs Q hp (.here e (slots_st hv N)) q⟩
section
variable {Ps : Tys} {te : TE} {tl : TA} {F0 H0 F H : Hp} {σ : L2.St} {D : Ends} {t2 : TS} {Qs : List Ty}
theorem f_call {ι : Type} {pre : ι → Prop} {io : ι → List Ty × List Ty} {E : XK} (i : ι) (hp : pre i) (h : EvA tl Ps (io i).1) (hQ : (io i).2 = Qs) : EvF (tCall (SpL pre io) [] E tl) Ps Qs := fun F H σ e s Q q => by
  subst hQ
  exact h F H σ e s _ fun vs F1 H1 g1 p1 => ⟨i, F1, hp, g1.fh, by rw [List.append_nil]; exact p1, fun l F2 H2 g2 hl o => q l F2 H2 (g1.trans g2) (g1.hh.free hl) o⟩
theorem sf_ret (R : RS F0 H0 F H σ Ps) (h : EvF te Ps Qs) (k : ∀ l F' H', Gr F0 H0 F' H' → H0 l = none → OpL l F' H' Qs → D.rt (.ref l) H') : tRet te D σ H :=
  h F H σ R.fh R.sl _ fun l F1 H1 g1 hl o => k l F1 H1 (R.gr.trans g1) (R.gr.hh.free hl) o
/-- x = a new list, open -/
theorem sf_asgS {i : Nat} (R : RS F0 H0 F H σ Ps) (h : EvF te Ps Qs) (k : ∀ l F' H' σ', Gr F H F' H' → H0 l = none → H l = none → RS F0 H0 F' H' σ' (Ps.set i (some (Vl (.ref l)))) → OpL l F' H' Qs → t2 D σ' H') : tSeq (tAsg te (gName i)) t2 D σ H :=
  h F H σ R.fh R.sl _ fun l F1 H1 g1 hl o => k l F1 H1 _ g1 (R.gr.hh.free hl) hl ((R.step g1).set i (P := Vl (.ref l)) rfl) o
theorem f_sortN {os : List Oc} (h : EvX te Ps (LstP (os.map fun o => Dat (enc o)))) (hne : ∀ o ∈ os, o ≠ []) (hz : os.length ≤ 100000) : EvF (tCB rSortN (tCons te tNil)) Ps ((srt os).map fun o => Dat (enc o)) := fun F0 H0 σ e0 s Q q =>
  h F0 H0 σ e0 s _ fun v F H g0 p1 => by
    have e := g0.fh
    obtain ⟨l, xs, rfl, h2, h3⟩ := p1
    obtain ⟨bs, b1, b2, b3⟩ := rt_pairs h3
    have hlen : bs.length = os.length := by rw [← b2, List.length_map]
    refine ⟨F, l, bs, rfl, e, by rw [b1]; exact e _ _ h2, fun b hb => ⟨b3 b hb, hne _ (by rw [← b2]; exact List.mem_map.mpr ⟨b, hb, rfl⟩)⟩, by rw [hlen]; exact hz, fun p hp => ?_⟩
    refine q p F _ (g0.trans (.open e hp)) (g0.hh.free hp) ⟨e.free hp, _, upd_same, ?_⟩
    have := pairs_rt (F := F) (bs := bs.mergeSort voLe) fun b hb => b3 b ((List.mergeSort_perm _ _).mem_iff.mp hb)
    rw [vo_srt, b2] at this
    exact this
end
abbrev sp_outcomes (c : CA) : Sp := SpL (fun g : PG => SrchOk g) fun g => ([webP c g, progP c g], (dueG g).map fun o => Dat (enc o))
theorem ends_list {Ps : Tys} (g : PG) (hs : SrchOk g) (h0 : Ps[0]? = some (some (webP c g))) (h1 : Ps[1]? = some (some (progP c g))) {E : XK} : EvX (tCB (rListN P w) (tCons (tMeth c.srch "ends" (sp_ends P w c) [] E (tCall (sp_search P w c) [] E (tCons (tVar 0) (tCons (tVar 1) tNil))) tNil) tNil)) Ps (LstP (((endsG g).map (·.1)).map fun o => Dat (enc o))) := by
  have h2 : EvX (tCall (sp_search P w c) [] E (tCons (tVar 0) (tCons (tVar 1) tNil))) Ps (srchP P w c g (bfsOf g)) := x_call g hs (a_cons (x_var h0) (a_cons (x_var h1) a_nil)) rfl
  have h3 : EvX (tMeth c.srch "ends" (sp_ends P w c) [] E (tCall (sp_search P w c) [] E (tCons (tVar 0) (tCons (tVar 1) tNil))) tNil) Ps (DctP P w (ocKv (endsG g))) := x_meth (g, bfsOf g) hs.ends2 h2 rfl a_nil rfl rfl
  refine (e_listN h3).cast ?_
  rw [List.map_map, List.map_map]
  rfl
theorem ok_outcomes_of (F : Fun K "outcomes_of" "outcomes_of" s_outcomes_of f fd) (B : Bi mg) (G_search : GF P w K mg base "search" ps_search 12 (sp_search P w c) f1 fd1) (M_Search_ends : GM P w K mg base c.srch "ends" ps_Search_ends 6 (sp_ends P w c) f2 fd2) : FnOk P w K mg base CX0 13 f fd ps_outcomes_of (sp_outcomes c) := by
  refine okL F sc_outcomes_of (fun _ => rfl) fun cdv A outer s H E hr => ⟨_, (pss_one (ps_ret (pe_callB (cSortN (ru65 (hr.mono (by decide)))) (by rfl) B.sorted_ b_sorted (pa_cons (pe_callTy (cListN rfl) (by rfl) B.list_ b_list (pa_cons (pe_m0 M_Search_ends (hr.mono (by decide)) (pe_f G_search (hr.mono (by decide)) rfl (pa_cons (pv 0) (pa_cons (pv 1) pa_nil)))) pa_nil)) pa_nil)))), fun g F vs Q hp R q => ?_⟩
  have hs : SrchOk g := hp
  replace q : ∀ l F' H', Gr F H F' H' → H l = none → OpL l F' H' ((dueG g).map fun o => Dat (enc o)) → Q (.ref l) H' := q
  have h4 := f_sortN (ends_list (P := P) (w := w) (c := c) (E := E0) (Ps := stT nm_outcomes_of [webP c g, progP c g]) g hs rfl rfl) (fun o ho => hs.oc_ne ho) (by rw [List.length_map]; have := endsG_len g hs; omega)
  rw [due_eq] at h4
  exact sf_ret R h4 q
theorem ok_outcomes (F : Fun K "outcomes" "outcomes" s_outcomes f fd) (G_check_program : GF P w K mg base "check_program" ps_check_program 3 (sp_check_program c) f1 fd1) (G_outcomes_of : GF P w K mg base "outcomes_of" ps_outcomes_of 13 (sp_outcomes c) f2 fd2) : FnOk P w K mg base CX0 14 f fd ps_outcomes (sp_outcomes c) := by
  refine okL F sc_outcomes (fun _ => rfl) fun cdv A outer s H E hr => ⟨_, (pss_cons (ps_expr (pe_f G_check_program (hr.mono (by decide)) rfl (pa_cons (pv 0) (pa_cons (pv 1) pa_nil))))
  (pss_one (ps_ret (pe_f G_outcomes_of (hr.mono (by decide)) rfl (pa_cons (pv 0) (pa_cons (pv 1) pa_nil)))))), fun g F vs Q hp R q => ?_⟩
  refine s_drop R (P := Dat .non) (x_call g trivial (a_cons (x_var rfl) (a_cons (x_var rfl) a_nil)) rfl) fun F H R => s_nx (sf_ret R (f_call g hp (a_cons (x_var rfl) (a_cons (x_var rfl) a_nil)) rfl) q)
abbrev sp_many (c : CA) : Sp := SpG (fun g : PG => SrchOk g) fun g => ([webP c g, progP c g], Dat (.int ((allOf g).length : Int)))
theorem ok_many (F : Fun K "many_standings" "many_standings" s_many_standings f fd) (B : Bi mg) (OS : OwnC K c.srch srchNs) (G_check_program : GF P w K mg base "check_program" ps_check_program 3 (sp_check_program c) f1 fd1) (G_search : GF P w K mg base "search" ps_search 12 (sp_search P w c) f2 fd2) : FnOk P w K mg base CX0 14 f fd ps_many_standings (sp_many c) := by
  refine okG F sc_many_standings (fun _ => rfl) fun cdv A outer s H E hr => ⟨_, (pss_cons (ps_expr (pe_f G_check_program (hr.mono (by decide)) rfl (pa_cons (pv 0) (pa_cons (pv 1) pa_nil))))
  (pss_one (ps_ret (pe_callB (kC (r := rLenG) (K := K) cLen rfl) (by rfl) B.len_ b_len (pa_cons (kPF (K := K) (pe_fld (pe_f G_search (hr.mono (by decide)) rfl (pa_cons (pv 0) (pa_cons (pv 1) pa_nil))) rfl) rfl) pa_nil))))), fun g F vs Q hp R q => ?_⟩
  refine s_drop R (P := Dat .non) (x_call g trivial (a_cons (x_var rfl) (a_cons (x_var rfl) a_nil)) rfl) fun F H R => s_nx (s_ret R ?_ q)
  refine (e_lenL (Qs := fsP c g (bfsOf g).fs) (x_fld (x_call (P := srchP P w c g (bfsOf g)) g hp (a_cons (x_var rfl) (a_cons (x_var rfl) a_nil)) rfl) OS (by decide +kernel) rfl)).cast ?_
  rw [List.length_map]
  rfl
/-! is_outcome, run_to -/
abbrev sp_is_outcome (c : CA) : Sp := SpG (fun i : PG × Oc => i.2.length ≤ 1000 ∧ ∀ l ∈ i.2, l.length ≤ 50000) fun i => ([progP c i.1, Dat (enc i.2)], Dat (.bl (decide (i.2.length = i.1.cs.length))))
theorem ok_is_outcome (F : Fun K "is_outcome" "is_outcome" s_is_outcome f fd) (B : Bi mg) (O : Own4 K c) (G_is_integer : GF P w K mg base "is_integer" ps_is_integer 3 sp_is_integer f1 fd1) : FnOk P w K mg base CX0 4 f fd ps_is_outcome (sp_is_outcome c) := by
  refine okG F sc_is_outcome (fun _ => rfl) fun cdv A outer s H E hr => ⟨_, (pss_cons (ps_if (PW.pt (pw_or (pt_not (pt_val (pe_callB (kC (r := rIsi) (K := K) call_isi rfl) (by rfl) B.isinstance_ b_isinstance (pa_cons (pv 1) (pa_cons (pe_bltn (v := .ty "tuple") (by rfl) B.tuple_ b_tuple rfl) pa_nil))))) (pw_or1 (pt_cmpR oNeS (pe_callB (kC (r := rLenG) (K := K) cLen rfl) (by rfl) B.len_ b_len (pa_cons (pv 1) pa_nil)) (pe_callB (kC (r := rLenG) (K := K) cLen rfl) (by rfl) B.len_ b_len (pa_cons (kPF (K := K) (pe_fld (pv 0) rfl) rfl) pa_nil)) (nomark _)))))
  (pss_one (ps_ret pe_bl))
  pss_nil)
  (pss_one (ps_ret (pe_callB (kC (r := rAll) (K := K) (cAll rfl) rfl) (by rfl) B.all_ b_all (pa_cons (pe_lc (own := [("told", 2)]) rfl sc_is_outcome.nd (kPI (r := iTup) (K := K) (pi_tup (pv 1)) rfl) (blkOk_by (N := nm_is_outcome) (sc := defScope s_is_outcome) (by decide +kernel)) (fun _ _ _ _ _ => (pg_name (i := 2) sc_is_outcome.nd rfl (Or.inl rfl))) (fun _ _ _ _ _ => pts_nil) (fun _ _ _ _ _ => (pe_and (pe_callB (kC (r := rIsi) (K := K) call_isi rfl) (by rfl) B.isinstance_ b_isinstance (pa_cons (pv 2) (pa_cons (pe_bltn (v := .ty "tuple") (by rfl) B.tuple_ b_tuple rfl) pa_nil))) (pe_one (pe_callB (kC (r := rAll) (K := K) (cAll rfl) rfl) (by rfl) B.all_ b_all (pa_cons (pe_lc (own := [("number", 3)]) rfl sc_is_outcome.nd (kPI (r := iTup) (K := K) (pi_tup (pv 2)) rfl) (blkOk_in (N := nm_is_outcome) (s0 := defScope s_is_outcome) rfl (by decide +kernel)) (fun _ _ _ _ _ => (pg_name (i := 3) sc_is_outcome.nd rfl (Or.inl rfl))) (fun _ _ _ _ _ => pts_nil) (fun _ _ _ _ _ => (pe_f G_is_integer (hr.mono (by decide)) rfl (pa_cons (pv 3) pa_nil)))) pa_nil)))))) pa_nil))))), fun i F vs Q hp R q => ?_⟩
  obtain ⟨g, o⟩ := i
  obtain ⟨h1, h2⟩ : o.length ≤ 1000 ∧ ∀ l ∈ o, l.length ≤ 50000 := hp
  replace q : ∀ v F' H', Gr F H F' H' → (Dat (.bl (decide (o.length = g.cs.length)))).p F' v → Q v H' := q
  have ht : ∀ {Ps : Tys}, Ps[0]? = some (some (progP c g)) → Ps[1]? = some (some (Dat (enc o))) → EvT (tTest (tOp rNeS (tCB (rLenG K) (tCons (tVar 1) tNil)) (tCB (rLenG K) (tCons (tFld K (tVar 0) "codes") tNil)))) Ps (!decide (o.length = g.cs.length)) := fun a b => (x_test (e_neI (e_lenE (as := o) (x_var b)) (e_csLen (f_codes O (x_var a))))).cast (by rw [nat_eq])
  refine s_if R (x_or (b := false) (c := !decide (o.length = g.cs.length)) ((x_not (x_test (e_isi (x_var (P := Dat (enc o)) rfl) (kit_tuple _)))).cast rfl) fun _ => ht rfl rfl) (fun hb F H R => ?_) fun hb F H R => ?_
  · have : decide (o.length = g.cs.length) = false := by simpa using hb
    rw [this] at q
    exact s_ret R x_bl q
  · have : decide (o.length = g.cs.length) = true := by simpa using hb
    rw [this] at q
    refine s_next (s_ret R ((e_all (bs := o.map fun _ => true) ?_).cast (by rw [all_yes])) q)
    rw [List.map_map]
    refine x_lcM (K := K) (is := [2]) (xs := o) (ι := fun l => Dat (enc l)) (ts := fun l => [Dat (enc l)]) (i_tupM (f := enc) (as := o) (x_var rfl)) (fun l _ => .one 2 _) (by decide) (sz1 (by omega)) fun l hl => ?_
    refine EvX.cast (x_andV (e_isi (x_var (P := Dat (enc l)) rfl) (kit_tuple _)) fun _ => e_all (bs := l.map fun _ => true) ?_) (by rw [all_yes]; rfl)
    rw [List.map_map]
    refine x_lcM (K := K) (is := [3]) (xs := l) (ι := fun i => Dat (enc i)) (ts := fun i => [Dat (enc i)]) (i_tupM (f := enc) (as := l) (x_var rfl)) (fun l _ => .one 3 _) (by decide) (sz1 (by have := h2 l hl; omega)) fun i _ => ?_
    exact x_call (.int i) trivial (a_cons (x_var rfl) a_nil) rfl
end
end G
namespace G
open PySem PySem.Spec PyProof.Rows L2
open Enc (enc)
abbrev s_law_draw : Stmt := top 67
abbrev nm_law_draw : List Str := ["_law_hand_here", "_law_many", "_law_cell", "_law_digit", "_law_number"]
abbrev ps_law_draw : List Str := ["_law_hand_here", "_law_many"]
theorem sc_law_draw : FnScope nm_law_draw ps_law_draw (defScope s_law_draw) := ⟨rfl, rfl, rfl, by decide +kernel, rfl, by decide +kernel, by decide +kernel⟩
theorem seq_both {t u : TS} {D : Ends} {σ : L2.St} {H : Hp} (I : L2.St → Hp → Prop) (second : ∀ σ H, I σ H → u D σ H) (first : (∀ σ H, I σ H → u D σ H) → tSeq t u D σ H) : tSeq t u D σ H := first second
theorem scal_p {F : Hp} {t : T} (h : Scal t) : (Dat t).p F t.v := by
  cases t with
  | non => exact .non
  | bl b => exact .bl b
  | int i => exact .int i
  | str x => exact .str x
  | tup ts => exact absurd h (by simp [Scal])
section
variable {K : PySem.W.Frag} {Ps PsN : Tys} {P : Ty} {te ta tb : TE} {t : T} {F0 H0 F H : Hp} {σ : L2.St} {D : Ends} {t2 : TS} {Qs : List Ty} {l : Addr}
theorem g_ret (R : RS F0 H0 F H σ Ps) (h : EvX te Ps P) (k : ∀ v F' H', Gr F H F' H' → Gr F0 H0 F' H' → P.p F' v → D.rt v H') : tRet te D σ H :=
  h F H σ R.fh R.sl _ fun v F1 H1 g1 p1 => k v F1 H1 g1 (R.gr.trans g1) p1
/-- a scalar, read of what now stands -/
theorem so_asgNow {i : Nat} (R : RS F0 H0 F H σ Ps) (hs : Slots H σ PsN) (h : EvX te PsN (Dat t)) (sc : Scal t) (k : ∀ H' σ', Gr F H F H' → RS F0 H0 F H' σ' (Ps.set i (some (Dat t))) → t2 D σ' H') : tSeq (tAsg te (gName i)) t2 D σ H :=
  now_x h R.fh hs sc fun H' g => k H' _ g ((R.step g).set i (scal_p sc))
/-- l[i] = e, l open, e read of what now stands -/
theorem so_setLNow {n : Nat} (R : RS F0 H0 F H σ Ps) (o : OpL l F H Qs) (h0 : H0 l = none) (hs : Slots H σ PsN) (hv : EvX te PsN (Dat t)) (sc : Scal t) (hl : EvX ta Ps (Vl (.ref l))) (hi : EvX tb Ps (Dat (.int (n : Int)))) (hn : n < Qs.length)
    (k : ∀ F' H', GrE [l] F H F' H' → RS F0 H0 F' H' σ Ps → OpL l F' H' (Qs.set n (Dat t)) → D.nx σ H') : tAsg te (gSub ta tb rSetL) D σ H :=
  now_x hv R.fh hs sc fun H1 g1 => hl F H1 σ g1.fh (R.sl.up g1.ff) _ fun x F2 H2 g2 p2 => hi F2 H2 σ g2.fh (R.sl.up (g1.ff.trans g2.ff)) _ fun y F3 H3 g3 p3 => by
    have g := (g1.trans g2).trans g3
    have e2 : x = .ref l := p2
    subst e2
    obtain ⟨f3, us, k1, k2⟩ := o.step g
    refine ⟨l, us, n, n, rfl, dat_int p3, k1, by rw [← k2.len]; exact ixN_at hn, ?_⟩
    have ge := (GrE.of (A := [l]) g).trans (GrE.put g3.fh f3 k1 (o := .lst (us.set n t.v)))
    exact k F3 _ ge (R.stepE (fun b hb => by rw [List.mem_singleton.mp hb]; exact h0) ge) ⟨f3, _, upd_same, AllP.set_ k2 (scal_p sc)⟩
end
section
variable {P : Program} {w : World} {K : PySem.W.Frag} {mg : Str → Option Value} {base : Heap} {f f1 f2 f3 : Addr} {fd fd1 fd2 fd3 : FuncData}
theorem mod_lt (i : Int) {m : Nat} (hm : 0 < m) : ∃ d : Nat, i % (m : Int) = (d : Int) ∧ d < m := ⟨(i % (m : Int)).toNat, by
  have h1 := Int.emod_nonneg i (b := (m : Int)) (by omega)
  omega, by
  have h1 := Int.emod_nonneg i (b := (m : Int)) (by omega)
  have h2 := Int.emod_lt_of_pos i (b := (m : Int)) (by omega)
  omega⟩
abbrev sp_draw : Sp := SpH (fun m : Nat => 0 < m ∧ m ≤ 1000) (fun m => [Dat (.int (m : Int))]) fun m => LtT m
theorem ok__law_draw (F : Fun K "_law_draw" "_law_draw" s_law_draw f fd) (B : Bi mg) : FnOk P w K mg base CX0 3 f fd ps_law_draw sp_draw := by
  refine okH F sc_law_draw (fun _ => rfl) fun cdv A outer s H E hr => ⟨_, (pss_cons (ps_if (PW.pt (pw_and (pt_cmpR oEqS (pe_ix (kIx (r := rIxL) (K := K) ix_list rfl) (pv 0) pe_int (fun _ _ => rfl)) pe_int (nomark _)) (pw_and1 (pt_cmpR oLtI (pe_ix (kIx (r := rIxL) (K := K) ix_list rfl) (pv 0) pe_int (fun _ _ => rfl)) (pe_callB (kC (r := rLenG) (K := K) cLen rfl) (by rfl) B.len_ b_len (pa_cons (pe_ix (kIx (r := rIxL) (K := K) ix_list rfl) (pv 0) pe_int (fun _ _ => rfl)) pa_nil)) (nomark _)))))
  (pss_cons (ps_set (i := 2) sc_law_draw.nd rfl (Or.inl rfl) (pe_ix (kIx (r := rIxL) (K := K) ix_list rfl) (pe_ix (kIx (r := rIxL) (K := K) ix_list rfl) (pv 0) pe_int (fun _ _ => rfl)) (pe_ix (kIx (r := rIxL) (K := K) ix_list rfl) (pv 0) pe_int (fun _ _ => rfl)) (fun _ _ => rfl)))
  (pss_cons (ps_asg (pe_op oAddI (pe_ix (kIx (r := rIxL) (K := K) ix_list rfl) (pv 0) pe_int (fun _ _ => rfl)) pe_int) (pg_sub (pv 0) pe_int set_list))
  (pss_cons (ps_asg (pe_op oModI (pe_callTy cInt (by rfl) B.int_ b_int (pa_cons (pe_op oAddI (pe_op oAddI (pe_op oMulI (pe_ix (kIx (r := rIxL) (K := K) ix_list rfl) (pv 0) pe_int (fun _ _ => rfl)) pe_int) (pv 2)) pe_int) pa_nil)) pe_int) (pg_sub (pv 0) pe_int set_list))
  (pss_one (ps_if (pt_cmpR oGeI (pv 2) (pe_op oPowI pe_int pe_int) (nomark _))
  (pss_one (ps_asg (pv 2) (pg_sub (pv 0) pe_int set_list)))
  pss_nil)))))
  pss_nil)
  (pss_cons (ps_if (pt_cmpR oGtI (pe_ix (kIx (r := rIxL) (K := K) ix_list rfl) (pv 0) pe_int (fun _ _ => rfl)) pe_int (nomark _))
  (pss_cons (ps_set (i := 3) sc_law_draw.nd rfl (Or.inl rfl) (pe_op oModI (pe_callTy cInt (by rfl) B.int_ b_int (pa_cons (pe_ix (kIx (r := rIxL) (K := K) ix_list rfl) (pv 0) pe_int (fun _ _ => rfl)) pa_nil)) (pv 1)))
  (pss_cons (ps_asg (pe_op oDivI (pe_ix (kIx (r := rIxL) (K := K) ix_list rfl) (pv 0) pe_int (fun _ _ => rfl)) (pv 1)) (pg_sub (pv 0) pe_int set_list))
  (pss_one (ps_ret (pv 3)))))
  pss_nil)
  (pss_cons (ps_asg (pe_op oAddI (pe_ix (kIx (r := rIxL) (K := K) ix_list rfl) (pv 0) pe_int (fun _ _ => rfl)) pe_int) (pg_sub (pv 0) pe_int set_list))
  (pss_cons (ps_set (i := 4) sc_law_draw.nd rfl (Or.inl rfl) (pe_op oModI (pe_callTy cInt (by rfl) B.int_ b_int (pa_cons (pe_op oMulI (pe_callTy cInt (by rfl) B.int_ b_int (pa_cons (pe_op oAddI (pe_ix (kIx (r := rIxL) (K := K) ix_list rfl) (pv 0) pe_int (fun _ _ => rfl)) (pe_op oMulI pe_int (pe_ix (kIx (r := rIxL) (K := K) ix_list rfl) (pv 0) pe_int (fun _ _ => rfl)))) pa_nil)) pe_int) pa_nil)) pe_int))
  (pss_cons (ps_set (i := 4) sc_law_draw.nd rfl (Or.inl rfl) (pe_op oModI (pe_callTy cInt (by rfl) B.int_ b_int (pa_cons (pe_op oMulI (pv 4) (pe_op oAddI (pe_op oDivI (pv 4) pe_int) pe_int)) pa_nil)) pe_int))
  (pss_cons (ps_set (i := 4) sc_law_draw.nd rfl (Or.inl rfl) (pe_op oModI (pe_callTy cInt (by rfl) B.int_ b_int (pa_cons (pe_op oMulI (pv 4) (pe_op oAddI (pe_op oDivI (pv 4) pe_int) pe_int)) pa_nil)) pe_int))
  (pss_one (ps_ret (pe_op oModI (pe_callTy cInt (by rfl) B.int_ b_int (pa_cons (pe_op oDivI (pv 4) pe_int) pa_nil)) (pv 1)))))))))), fun m F h vs Q hp h0 R o q => ?_⟩
  obtain ⟨hm, hm2⟩ : 0 < m ∧ m ≤ 1000 := hp
  replace q : ∀ v F' H', Gr F (hid H h) F' H' → HandOk h F' H' → (LtT m).p F' v → Q v H' := q
  obtain ⟨cs, i, r, s, k, o⟩ := o
  -- what the slots hold now
  have now : ∀ {F0 H0 F H : Hp} {σ : L2.St} {Ps : Tys} {cs : List Int} {i : Nat} {r s k : Int}, RS F0 H0 F H σ Ps → Ps[0]? = some (some (Vl (.ref h))) → OpL h F H (handT cs i r s k) → Slots H σ (Ps.set 0 (some (LstP (handT cs i r s k)))) := fun R e o => (slots_now R).know (j := 0) e (o.now R.fh)
  have hix : ∀ {Ps : Tys} {cs : List Int} {i : Nat} {r s k : Int} {n : Nat} {P : Ty}, Ps[0]? = some (some (LstP (handT cs i r s k))) → (handT cs i r s k)[n]? = some P → EvX (tOp (rIxL K) (tVar 0) (tC (.int (n : Int)))) Ps P := fun e e2 => x_ixL (x_var e) x_int e2
  have pm : ∀ {Ps : Tys}, Ps[1]? = some (some (Dat (.int (m : Int)))) → EvX (tVar 1) Ps (Dat (.int (m : Int))) := fun e => x_var e
  refine seq_both (I := fun σ H1 => ∃ F1 cs i r s k P2, RS F (hid H h) F1 H1 σ [some (Vl (.ref h)), some (Dat (.int (m : Int))), P2, none, none] ∧ OpL h F1 H1 (handT cs i r s k)) ?_ fun second => ?_
  · rintro σ H1 ⟨F1, cs, i, r, s, k, P2, R, o⟩
    refine so_if R (now R rfl o) (b := decide (0 < r)) (x_test (e_gt (i := r) (j := 0) (hix (n := 2) rfl rfl) x_int)) (fun hb F2 H2 g R => ?_) fun hb F2 H2 g R => s_next ?_
    · replace o := o.step g
      obtain ⟨d, d1, d2⟩ := mod_lt r hm
      refine so_asgNow R (now R rfl o) (t := .int (r % (m : Int))) (e_mod (e_int (hix (n := 2) rfl rfl)) (x_var rfl) (by omega)) trivial fun H3 σ3 g R => ?_
      replace o := o.step g
      refine so_setLNow (n := 2) R o h0 (now R rfl o) (t := .int (r / (m : Int))) (e_div (hix (n := 2) rfl rfl) (x_var rfl) ⟨by omega, by omega⟩) trivial (x_var rfl) x_int (of_decide_eq_true rfl) fun F4 H4 g R o => ?_
      exact g_ret R (x_var (P := Dat (.int (r % (m : Int)))) rfl) fun v F5 H5 g g5 p5 => q v F5 H5 g5 ⟨_, _, _, _, _, o.step g⟩ ⟨d, d2, by show RT _ _ (T.int (d : Int)); rw [← d1]; exact p5⟩
    · replace o := o.step g
      refine so_setLNow (n := 4) R o h0 (now R rfl o) (t := .int (k + 1)) (e_add (hix (n := 4) rfl rfl) x_int) trivial (x_var rfl) x_int (of_decide_eq_true rfl) fun F3 H3 g R o => ?_
      refine s_nx (so_asgNow R (now R rfl o) (t := .int ((s + 7919 * (k + 1)) * 48271 % ((2147483647 : Nat) : Int))) (e_mod (e_int (e_mul (e_int (e_add (hix (n := 3) rfl rfl) (e_mul x_int (hix (n := 4) rfl rfl) (.inl (by decide))))) x_int (.inr (by decide)))) x_int (by decide)) trivial fun H4 σ4 g R => ?_)
      replace o := o.step g
      obtain ⟨a, a1, a2⟩ := mod_lt ((s + 7919 * (k + 1)) * 48271) (m := 2147483647) (by decide)
      rw [a1] at R
      refine g_asgS R (P := Dat (.int ((a : Int) * ((a : Int) / 1009 + 69621) % ((2147483647 : Nat) : Int)))) (e_mod (e_int (e_mul (i := (a : Int)) (x_var rfl) (e_add (e_div (i := (a : Int)) (x_var rfl) x_int ⟨by omega, by omega⟩) x_int) (.inl (by omega)))) x_int (by decide)) fun F5 H5 σ5 g R => ?_
      replace o := o.step g
      obtain ⟨b, b1, b2⟩ := mod_lt ((a : Int) * ((a : Int) / 1009 + 69621)) (m := 2147483647) (by decide)
      rw [b1] at R
      refine g_asgS R (P := Dat (.int ((b : Int) * ((b : Int) / 2003 + 40692) % ((2147483399 : Nat) : Int)))) (e_mod (e_int (e_mul (i := (b : Int)) (x_var rfl) (e_add (e_div (i := (b : Int)) (x_var rfl) x_int ⟨by omega, by omega⟩) x_int) (.inl (by omega)))) x_int (by decide)) fun F6 H6 σ6 g R => ?_
      replace o := o.step g
      obtain ⟨c, c1, c2⟩ := mod_lt ((b : Int) * ((b : Int) / 2003 + 40692)) (m := 2147483399) (by decide)
      rw [c1] at R
      obtain ⟨d, d1, d2⟩ := mod_lt ((c : Int) / 16) hm
      refine g_ret R (P := Dat (.int ((c : Int) / 16 % (m : Int)))) (e_mod (e_int (e_div (i := (c : Int)) (x_var rfl) x_int ⟨by omega, by omega⟩)) (x_var rfl) (by omega)) fun v F7 H7 g g7 p7 => q v F7 H7 g7 ⟨_, _, _, _, _, o.step g⟩ ⟨d, d2, by show RT _ _ (T.int (d : Int)); rw [← d1]; exact p7⟩
  · refine so_if R (now R rfl o) (b := decide (r = 0) && decide ((i : Int) < (cs.length : Int))) (x_and (x_test (e_eqI (i := r) (j := 0) (hix (n := 2) rfl rfl) x_int)) fun _ => x_test (e_lt (i := (i : Int)) (hix (n := 1) rfl rfl) ((e_lenL (Qs := cs.map fun x => Dat (.int x)) (hix (n := 0) rfl rfl)).cast (by rw [List.length_map])))) (fun hb F1 H1 g R => ?_) fun hb F1 H1 g R => s_next (second _ _ ⟨_, _, _, _, _, _, _, R, o.step g⟩)
    replace o := o.step g
    rw [Bool.and_eq_true, decide_eq_true_eq, decide_eq_true_eq] at hb
    have hi : i < cs.length := by omega
    obtain ⟨c, hc⟩ : ∃ c, cs[i]? = some c := ⟨_, List.getElem?_eq_getElem hi⟩
    refine so_asgNow R (now R rfl o) (t := .int c) (x_ixL (n := i) (hix (n := 0) rfl rfl) (hix (n := 1) rfl rfl) (by rw [List.getElem?_map, hc]; rfl)) trivial fun H2 σ2 g R => ?_
    replace o := o.step g
    refine so_setLNow (n := 1) R o h0 (now R rfl o) (t := .int ((i + 1 : Nat) : Int)) ((e_add (hix (n := 1) rfl rfl) x_int).cast (by rw [Int.natCast_add]; rfl)) trivial (x_var rfl) x_int (of_decide_eq_true rfl) fun F3 H3 g R o => ?_
    refine so_setLNow (n := 3) R o h0 (now R rfl o) (t := .int ((s * 69621 + c + 11) % 2147483629)) (e_mod (e_int (e_add (e_add (e_mul (hix (n := 3) rfl rfl) x_int (.inr (by decide))) (x_var rfl)) x_int)) x_int (by decide)) trivial (x_var rfl) x_int (of_decide_eq_true rfl) fun F4 H4 g R o => ?_
    refine so_if R (slots_now R) (x_test (e_ge (i := c) (x_var rfl) (e_pow (i := 10) (j := 18) x_int x_int ⟨by decide, by decide, by decide⟩))) (fun hb F5 H5 g R => ?_) fun hb F5 H5 g R => s_next (second _ _ ⟨_, _, _, _, _, _, _, R, o.step g⟩)
    replace o := o.step g
    exact so_setLNow (n := 2) R o h0 (now R rfl o) (t := .int c) (x_var rfl) trivial (x_var rfl) x_int (of_decide_eq_true rfl) fun F6 H6 g R o => s_nx (second _ _ ⟨_, _, _, _, _, _, _, R, o⟩)
end
end G
namespace G
open PySem PySem.Spec PyProof.Rows L2
open Enc (enc)
section
variable {P : Program} {w : World} {K : PySem.W.Frag} {mg : Str → Option Value} {base : Heap} {f f1 f2 f3 f4 f5 : Addr} {fd fd1 fd2 fd3 fd4 fd5 : FuncData} {c : CA}
/-! run_to -/
abbrev pathP (g : PG) (n : Nat) : Ty := LstP ((pathTo (bfsOf g) n).map fun s => Dat (enc s))
abbrev optP (g : PG) : Option Nat → Ty
  | none => Dat .non
  | some n => pathP g n
def runR (g : PG) (o : Oc) : Option Nat → Prop
  | none => o ∉ (endsG g).map (·.1)
  | some n => (o, n) ∈ endsG g
structure RunPre (g : PG) (o : Oc) : Prop where
  s : SrchOk g
  len : o.length ≤ 1000
  each : ∀ l ∈ o, l.length ≤ 50000
theorem ends_at {g : PG} {o : Oc} {n : Nat} (h : (o, n) ∈ endsG g) : ∃ sd, (allOf g)[n]? = some sd ∧ ended g sd = true ∧ outc sd = o := by
  obtain ⟨sd, h1, h2, h3⟩ := (endsD_ok g (nums (bfsOf g).fs)).at_ _ h
  exact ⟨sd, mem_nums.mp h1, h2, h3⟩
theorem SrchOk.to {g : PG} (h : SrchOk g) {n : Nat} (hn : n < (allOf g).length) : ToOk g (bfsOf g) n := ⟨h.bf (Nat.le_refl _), hn, Nat.le_trans h.few (by decide)⟩
abbrev sp_run_to (c : CA) : Sp := SpG (fun i : PG × Oc => RunPre i.1 i.2) fun i => ([webP c i.1, progP c i.1, Dat (enc i.2)], ExT (runR i.1 i.2) (optP i.1))
theorem ends_nd (g : PG) : ((ocKv (endsG g)).map (·.1.key)).Nodup := by
  have := key_nd (endsD_ok g (nums (bfsOf g).fs)).nd
  rw [List.map_map] at this ⊢
  exact this
theorem ok_run_to (F : Fun K "run_to" "run_to" s_run_to f fd) (G_check_program : GF P w K mg base "check_program" ps_check_program 3 (sp_check_program c) f1 fd1) (G_search : GF P w K mg base "search" ps_search 12 (sp_search P w c) f2 fd2)
    (M_Search_ends : GM P w K mg base c.srch "ends" ps_Search_ends 6 (sp_ends P w c) f3 fd3) (G_is_outcome : GF P w K mg base "is_outcome" ps_is_outcome 4 (sp_is_outcome c) f4 fd4) (M_Search_steps_to : GM P w K mg base c.srch "steps_to" ps_Search_steps_to 3 (sp_steps_to P w c) f5 fd5) :
    FnOk P w K mg base CX0 14 f fd ps_run_to (sp_run_to c) := by
  refine okG F sc_run_to (fun _ => rfl) fun cdv A outer s H E hr => ⟨_, (pss_cons (ps_expr (pe_f G_check_program (hr.mono (by decide)) rfl (pa_cons (pv 0) (pa_cons (pv 1) pa_nil))))
  (pss_cons (ps_set (i := 3) sc_run_to.nd rfl (Or.inl rfl) (pe_f G_search (hr.mono (by decide)) rfl (pa_cons (pv 0) (pa_cons (pv 1) pa_nil))))
  (pss_cons (ps_set (i := 4) sc_run_to.nd rfl (Or.inl rfl) (pe_m0 M_Search_ends (hr.mono (by decide)) (pv 3)))
  (pss_cons (ps_if (PW.pt (pw_or (pt_not (pt_val (pe_f G_is_outcome (hr.mono (by decide)) rfl (pa_cons (pv 1) (pa_cons (pv 2) pa_nil))))) (pw_or1 (pt_cmpR (oNinN (ru65 (hr.mono (by decide)))) (pv 2) (pv 4) rfl))))
  (pss_one (ps_ret pe_non))
  pss_nil)
  (pss_one (ps_ret (pe_m M_Search_steps_to (hr.mono (by decide)) (pv 3) (pa_cons (pe_ix (ix_dictN (ru65 (hr.mono (by decide)))) (pv 4) (pv 2) (fun _ _ => rfl)) pa_nil)))))))), fun i F vs Q hp R q => ?_⟩
  obtain ⟨g, o⟩ := i
  obtain ⟨hs, hl, he⟩ : RunPre g o := hp
  replace q : ∀ v F' H', Gr F H F' H' → (ExT (runR g o) (optP g)).p F' v → Q v H' := q
  refine s_drop R (P := Dat .non) (x_call g trivial (a_cons (x_var rfl) (a_cons (x_var rfl) a_nil)) rfl) fun F1 H1 R => s_nx ?_
  refine s_asgS R (P := srchP P w c g (bfsOf g)) (x_call g hs (a_cons (x_var rfl) (a_cons (x_var rfl) a_nil)) rfl) fun F2 H2 σ R => ?_
  refine s_asgS R (P := DctP P w (ocKv (endsG g))) (x_meth (g, bfsOf g) hs.ends2 (x_var (P := srchP P w c g (bfsOf g)) rfl) rfl a_nil rfl rfl) fun F3 H3 σ3 R => ?_
  have ht := x_or (b := !decide (o.length = g.cs.length)) (c := !decide (o ∈ (endsG g).map (·.1))) (tt := tNot (tTest (tCall (sp_is_outcome c) [] E0 (tCons (tVar 1) (tCons (tVar 2) tNil))))) (tu := tTest (tOp (rNinN P w) (tVar 2) (tVar 4))) (Ps := [some (webP c g), some (progP c g), some (Dat (enc o)), some (srchP P w c g (bfsOf g)), some (DctP P w (ocKv (endsG g)))])
    (x_not (x_test (x_call (g, o) ⟨hl, he⟩ (a_cons (x_var rfl) (a_cons (x_var rfl) a_nil)) rfl))) fun _ => (x_test (e_ninN (kvs := ocKv (endsG g)) (t := enc o) (x_var rfl) (oc_ky o) (x_var rfl))).cast (by rw [dec_iff (oc_mem (acc := endsG g) (o := o))])
  refine s_if R ht (fun hb F4 H4 R => s_ret R x_non fun v F5 H5 g5 p5 => q v F5 H5 g5 ⟨none, ?_, p5⟩) fun hb F4 H4 R => s_next ?_
  · intro hin
    rw [decide_eq_true (hs.oc_len hin), decide_eq_true hin] at hb
    cases hb
  · rw [Bool.or_eq_false_iff, Bool.not_eq_false', Bool.not_eq_false', decide_eq_true_eq, decide_eq_true_eq] at hb
    obtain ⟨e, h1, h2⟩ := List.mem_map.mp hb.2
    obtain ⟨o', n⟩ := e
    cases h2
    obtain ⟨sd, k1, _, _⟩ := ends_at h1
    refine s_ret R (x_meth (g, bfsOf g, n) (hs.to (getElem?_lt k1)) (x_var (P := srchP P w c g (bfsOf g)) rfl) rfl (a_cons (e_getN (kvs := ocKv (endsG g)) (t := enc o') (x_var rfl) (x_var rfl) (oc_ky o') (ends_nd g) (q0 := (enc o', Dat (.int (n : Int)))) (List.mem_map.mpr ⟨_, h1, rfl⟩) rfl rfl) a_nil) rfl rfl) fun v F5 H5 g5 p5 => q v F5 H5 g5 ⟨some n, h1, p5⟩
/-! stuck -/
def Idle (g : PG) (sd : SD) : Prop := can g sd = [] ∧ ended g sd = false
def stuckR (g : PG) : Option Nat → Prop
  | none => ∀ sd ∈ allOf g, ¬ Idle g sd
  | some n => ∃ sd, (allOf g)[n]? = some sd ∧ Idle g sd
abbrev sp_stuck (c : CA) : Sp := SpG (fun g : PG => SrchOk g) fun g => ([webP c g, progP c g], ExT (stuckR g) (optP g))
theorem ok_stuck (F : Fun K "stuck" "stuck" s_stuck f fd) (B : Bi mg) (OS : OwnC K c.srch srchNs) (G_check_program : GF P w K mg base "check_program" ps_check_program 3 (sp_check_program c) f1 fd1) (G_search : GF P w K mg base "search" ps_search 12 (sp_search P w c) f2 fd2)
    (M_Standing_can : GM P w K mg base c.std "can" ps_Standing_can 5 (sp_can c) f3 fd3) (M_Standing_is_ended : GM P w K mg base c.std "is_ended" ps_Standing_is_ended 5 (sp_is_ended c) f4 fd4) (M_Search_steps_to : GM P w K mg base c.srch "steps_to" ps_Search_steps_to 3 (sp_steps_to P w c) f5 fd5) :
    FnOk P w K mg base CX0 14 f fd ps_stuck (sp_stuck c) := by
  refine okG F sc_stuck (fun _ => rfl) fun cdv A outer s H E hr => ⟨_, (pss_cons (ps_expr (pe_f G_check_program (hr.mono (by decide)) rfl (pa_cons (pv 0) (pa_cons (pv 1) pa_nil))))
  (pss_cons (ps_set (i := 2) sc_stuck.nd rfl (Or.inl rfl) (pe_f G_search (hr.mono (by decide)) rfl (pa_cons (pv 0) (pa_cons (pv 1) pa_nil))))
  (pss_cons (ps_for PassesOwn.never rfl (kPI (r := iEnum) (K := K) (pi_enum rfl B.enumerate_ (pa_cons (kPF (K := K) (pe_fld (pv 2) rfl) rfl) pa_nil)) rfl) (kPG (K := K) (pg_tup (n := 2) rfl (pgs_cons (pg_name (i := 3) sc_stuck.nd rfl (Or.inl rfl)) (pgs_cons (pg_name (i := 4) sc_stuck.nd rfl (Or.inl rfl)) pgs_nil))) rfl)
  (pss_one (ps_if (PW.pt (pw_and (pt_cmpR oEqS (pe_callB (kC (r := rLenG) (K := K) cLen rfl) (by rfl) B.len_ b_len (pa_cons (pe_m0 M_Standing_can (hr.mono (by decide)) (pv 4)) pa_nil)) pe_int (nomark _)) (pw_and1 (pt_not (pt_val (pe_m0 M_Standing_is_ended (hr.mono (by decide)) (pv 4)))))))
  (pss_one (ps_ret (pe_m M_Search_steps_to (hr.mono (by decide)) (pv 2) (pa_cons (pv 3) pa_nil))))
  pss_nil)))
  (pss_one (ps_ret pe_non))))), fun g F vs Q hp R q => ?_⟩
  have hs : SrchOk g := hp
  replace q : ∀ v F' H', Gr F H F' H' → (ExT (stuckR g) (optP g)).p F' v → Q v H' := q
  refine s_drop R (P := Dat .non) (x_call g trivial (a_cons (x_var rfl) (a_cons (x_var rfl) a_nil)) rfl) fun F1 H1 R => s_nx ?_
  refine s_asgS R (P := srchP P w c g (bfsOf g)) (x_call g hs (a_cons (x_var rfl) (a_cons (x_var rfl) a_nil)) rfl) fun F2 H2 σ R => ?_
  let Pt : Nat → Tys := fun _ => [some (webP c g), some (progP c g), some (srchP P w c g (bfsOf g)), none, none]
  have R' : RS F H F2 H2 σ (Pt 0) := R
  refine s_forI (K := K) (is := [3, 4]) (xs := nums (bfsOf g).fs) (ι := fun q => TupP [Dat (.int (q.1 : Int)), stdP c g q.2]) (ts := fun q => [Dat (.int (q.1 : Int)), stdP c g q.2]) R' (by rw [← enum_nums]; exact i_enumL (x_fld (x_var (P := srchP P w c g (bfsOf g)) rfl) OS (by decide +kernel) rfl)) Pt (fun t _ _ => ∀ q ∈ (nums (bfsOf g).fs).take t, ¬ Idle g q.2) rfl (fun q hq => by simp at hq) (fun q _ => .tup 2 [3, 4] _ rfl rfl) (fun t F H F' H' o gr => o) (fun Fb hFb t qq hqq F3 H3 σ2 R od => ?_) fun F3 H3 σ2 R od => ?_
  · obtain ⟨n, sd⟩ := qq
    replace R : RS _ _ F3 H3 σ2 [some (webP c g), some (progP c g), some (srchP P w c g (bfsOf g)), some (Dat (.int (n : Int))), some (stdP c g sd)] := R
    have hnum := mem_nums.mp (List.mem_of_getElem? hqq)
    have hsd : StOk g sd := hs.ends2.st sd (List.mem_of_getElem? hnum)
    have ht : EvT (tAnd (tTest (tOp rEqS (tCB (rLenG K) (tCons (tMeth c.std "can" (sp_can c) [] E0 (tVar 4) tNil) tNil)) (tC (.int 0)))) (tNot (tTest (tMeth c.std "is_ended" (sp_is_ended c) [] E0 (tVar 4) tNil)))) [some (webP c g), some (progP c g), some (srchP P w c g (bfsOf g)), some (Dat (.int (n : Int))), some (stdP c g sd)] (decide (((can g sd).length : Int) = 0) && !(ended g sd)) :=
      x_and (x_test (e_eqI ((e_lenL (Qs := (can g sd).map fun s => Dat (enc s)) (x_meth (g, sd) hsd (x_var (P := stdP c g sd) rfl) rfl a_nil rfl rfl)).cast (by rw [List.length_map])) x_int)) fun _ => x_not (x_test (x_meth (g, sd) hsd (x_var (P := stdP c g sd) rfl) rfl a_nil rfl rfl))
    refine s_if R ht (fun hb F4 H4 R => ?_) fun hb F4 H4 R => s_next ⟨F4, (R.forget 3).forget 4, fun q hq => ?_⟩
    · rw [Bool.and_eq_true, decide_eq_true_eq, Bool.not_eq_true'] at hb
      have hcan : can g sd = [] := List.length_eq_zero_iff.mp (by omega)
      exact s_ret R (x_meth (g, bfsOf g, n) (hs.to (getElem?_lt hnum)) (x_var (P := srchP P w c g (bfsOf g)) rfl) rfl (a_cons (x_var rfl) a_nil) rfl rfl) fun v F5 H5 g5 p5 => q v F5 H5 (hFb _ _ g5) ⟨some n, ⟨sd, hnum, hcan, hb.2⟩, p5⟩
    · rw [List.take_add_one, hqq] at hq
      rcases List.mem_append.mp hq with z | z
      · exact od q z
      · have : q = (n, sd) := by simpa using z
        subst this
        rintro ⟨i1, i2⟩
        rw [i1, i2] at hb
        cases hb
  · refine s_nx (s_ret R x_non fun v F5 H5 g5 p5 => q v F5 H5 g5 ⟨none, fun sd hsd => ?_, p5⟩)
    obtain ⟨j, hj⟩ := List.mem_iff_getElem?.mp hsd
    exact od (j, sd) (by rw [List.take_of_length_le (Nat.le_refl _)]; exact mem_nums.mpr hj)
end
end G
namespace G
open PySem PySem.Spec PyProof.Rows L2
open Enc (enc)
abbrev s_is_wire_pair : Stmt := top 27
abbrev nm_is_wire_pair : List Str := ["many", "thing", "machine"]
abbrev ps_is_wire_pair : List Str := ["many", "thing"]
theorem sc_is_wire_pair : FnScope nm_is_wire_pair ps_is_wire_pair (defScope s_is_wire_pair) := ⟨rfl, rfl, rfl, by decide +kernel, rfl, by decide +kernel, by decide +kernel⟩
abbrev s_Web_init : Stmt := inClass (top 28) 0
abbrev nm_Web_init : List Str := ["self", "machines", "wires", "at", "wire"]
abbrev ps_Web_init : List Str := ["self", "machines", "wires"]
theorem sc_Web_init : FnScope nm_Web_init ps_Web_init (defScope s_Web_init) := ⟨rfl, rfl, rfl, by decide +kernel, rfl, by decide +kernel, by decide +kernel⟩
abbrev s_Web_keep : Stmt := inClass (top 28) 1
abbrev nm_Web_keep : List Str := ["self", "machines", "wires"]
abbrev ps_Web_keep : List Str := ["self", "machines", "wires"]
theorem sc_Web_keep : FnScope nm_Web_keep ps_Web_keep (defScope s_Web_keep) := ⟨rfl, rfl, rfl, by decide +kernel, rfl, by decide +kernel, by decide +kernel⟩
theorem ru0 {A : Around} (hr : Room 2 A) : A.units < cLine := by have := ru65 hr; omega
section
variable {ι : Type}
/-- a method that fills a new instance -/
def SpK (C : Addr) (pre : ι → Prop) (io : ι → List Ty × Flds) : Sp := fun vs H Q _ => ∃ i F x us, pre i ∧ vs = .ref x :: us ∧ Same F H ∧ Op x C F H [] ∧ AllP F (io i).1 us ∧ ∀ F' H', GrE [x] F H F' H' → Op x C F' H' (io i).2 → Q .non H'
end
section
variable {P : Program} {w : World} {K : PySem.W.Frag} {mg : Str → Option Value} {base : Heap} {x qual : Str} {st : Stmt} {f C : Addr} {fd : FuncData} {N ps : List Str} {k : Nat} {ι : Type} {pre : ι → Prop} {io : ι → List Ty × Flds}
theorem okK (F : Fun K x qual st f fd) (S : FnScope N ps (defScope st)) (len : ∀ i, (io i).1.length + 1 = ps.length)
    (hbody : ∀ (cdv : Value) (A : Around) (outer : List Env) (s : Shared) (H : Hp) (E : XK), Room k (A.deeper (envOfC qual (defScope st) s.heap.objs.size f cdv)) →
      ∃ t, PSs (cxOf CX0 P w K mg base N qual (defScope st) f cdv A outer s H E).nox (defBody st) t ∧
        ∀ i F x vs Q, pre i → hid H x x = none → RS F (hid H x) F H (start N vs) (stT N (Vl (.ref x) :: (io i).1)) → Op x C F H [] → (∀ F' H', Gr F (hid H x) F' H' → Op x C F' H' (io i).2 → Q .non H') → t { nx := fun _ H' => Q .non H', rt := Q } (start N vs) H) : FnOk P w K mg base CX0 (k + 1) f fd ps (SpK C pre io) := by
  refine F.ok S (fun vs H Q E h => ?_) (fun cdv A outer s H vs Q E hr h => ?_)
  · obtain ⟨i, F, x, us, _, rfl, _, _, hv, _⟩ := h
    rw [List.length_cons, ← hv.len, len]
  · obtain ⟨i, F, x, us, hp, rfl, e, ho, hv, q⟩ := h
    obtain ⟨t, d, r⟩ := hbody cdv A outer s H E hr
    refine ⟨t, d, r i F x _ Q hp hid_same ⟨⟨.refl _, fun b o z => ?_, e, fun _ _ z => z⟩, slots_st (Ps := Vl (.ref x) :: (io i).1) (.cons rfl hv) N⟩ ho fun F' H' g o => q F' H' ?_ o⟩
    · by_cases hb : b = x
      · subst hb
        rw [hid_same] at z
        cases z
      · rw [hid_ne hb] at z
        exact z
    · refine ⟨g.ff, fun b u n z => g.hh b u (by rw [hid_ne (fun y => n (by rw [y]; exact List.mem_singleton.mpr rfl))]; exact z), g.fh, fun a hx hf => ?_, fun a hx => ?_⟩
      · by_cases c : a = x
        · rw [c]; exact o.1
        · exact g.nw a (by rw [hid_ne c]; exact hx) hf
      · by_cases c : a = x
        · obtain ⟨_, dx, fs, h2, _⟩ := o
          rw [c, h2]; exact fun z => by cases z
        · cases e : H a with
          | none => exact absurd e hx
          | some u => rw [g.hh a u (by rw [hid_ne c]; exact e)]; exact fun z => by cases z
theorem so_keep {Ps : Tys} {ta : TE} {tl : TA} {E : XK} {F0 H0 F H : Hp} {σ : L2.St} {D : Ends} {x : Addr} {m : Str} (R : RS F0 H0 F H σ Ps) (o : Op x C F H []) (h0 : H0 x = none) (i : ι) (hp : pre i) (hx : EvX ta Ps (Vl (.ref x))) (ha : EvA tl Ps (io i).1)
    (k : ∀ F' H', RS F0 H0 F' H' σ Ps → Op x C F' H' (io i).2 → D.nx σ H') : tDrop (tMeth C m (SpK C pre io) [] E ta tl) D σ H :=
  hx F H σ R.fh R.sl _ fun v F1 H1 g1 p1 => by
    have e1 : v = .ref x := p1
    subst e1
    obtain ⟨_, dx, fs, h2, h3⟩ := o.step g1
    cases h3
    refine ⟨x, dx, [], rfl, h2, rfl, ha F1 H1 σ g1.fh (R.sl.up g1.ff) _ fun us F2 H2 g2 p2 => ⟨i, F2, x, us, hp, by rw [List.append_nil], g2.fh, (o.step g1).step g2, p2, fun F3 H3 g3 o3 => k F3 H3 (((R.step g1).step g2).stepE (fun a hm => by rw [List.mem_singleton.mp hm]; exact h0) g3) o3⟩⟩
end
section
variable {P : Program} {w : World} {K : PySem.W.Frag} {mg : Str → Option Value} {base : Heap} {f f1 f2 f3 f4 f5 : Addr} {fd fd1 fd2 fd3 fd4 fd5 : FuncData} {c : CA}
abbrev sp_is_wire_pair : Sp := SpG (fun i : Nat × Nat × Nat => i.2.1 < i.1 ∧ i.2.2 < i.1 ∧ i.2.1 ≠ i.2.2) fun i => ([Dat (.int (i.1 : Int)), Dat (enc (i.2.1, i.2.2))], Dat (.bl true))
theorem ok_is_wire_pair (F : Fun K "is_wire_pair" "is_wire_pair" s_is_wire_pair f fd) (B : Bi mg) (G_is_pair : GF P w K mg base "is_pair" ps_is_pair 3 sp_is_pair f1 fd1) (G_is_within : GF P w K mg base "is_within" ps_is_within 4 sp_is_within f2 fd2) : FnOk P w K mg base CX0 5 f fd ps_is_wire_pair sp_is_wire_pair := by
  refine okG F sc_is_wire_pair (fun _ => rfl) fun cdv A outer s H E hr => ⟨_, (pss_cons (ps_if (PW.pt (pw_or (pt_not (pt_val (pe_f G_is_pair (hr.mono (by decide)) rfl (pa_cons (pv 1) pa_nil)))) (pw_or1 (pt_not (pt_val (pe_callB (kC (r := rAll) (K := K) (cAll rfl) rfl) (by rfl) B.all_ b_all (pa_cons (pe_lc (own := [("machine", 2)]) rfl sc_is_wire_pair.nd (kPI (r := iTup) (K := K) (pi_tup (pv 1)) rfl) (blkOk_by (N := nm_is_wire_pair) (sc := defScope s_is_wire_pair) (by decide +kernel)) (fun _ _ _ _ _ => (pg_name (i := 2) sc_is_wire_pair.nd rfl (Or.inl rfl))) (fun _ _ _ _ _ => pts_nil) (fun _ _ _ _ _ => (pe_f G_is_within (hr.mono (by decide)) rfl (pa_cons (pv 2) (pa_cons pe_int (pa_cons (pe_op oSubI (pv 0) pe_int) pa_nil)))))) pa_nil)))))))
  (pss_one (ps_ret pe_bl))
  pss_nil)
  (pss_one (ps_ret (pe_cmpR oNeS (pe_ix (kIx (r := rIxT) (K := K) ix_tup rfl) (pv 1) pe_int (fun _ _ => rfl)) (pe_ix (kIx (r := rIxT) (K := K) ix_tup rfl) (pv 1) pe_int (fun _ _ => rfl)) (nomark _))))), fun i F vs Q hp R q => ?_⟩
  obtain ⟨n, y, x⟩ := i
  obtain ⟨h1, h2, h3⟩ : y < n ∧ x < n ∧ y ≠ x := hp
  replace R : RS F H F H (L2.start nm_is_wire_pair vs) [some (Dat (.int (n : Int))), some (Dat (.tup [.int (y : Int), .int (x : Int)])), none] := R
  refine s_ifF R (x_or (b := false) (c := false) ((x_not (x_test (x_call (.int (y : Int), .int (x : Int)) trivial (a_cons (x_var rfl) a_nil) rfl))).cast rfl) fun _ => (x_not (x_test (e_all (bs := [y, x].map fun _ => true) ?_))).cast rfl) rfl fun F1 H1 R => s_next ?_
  · refine x_lcM (K := K) (is := [2]) (xs := [y, x]) (ι := fun (k : Nat) => Dat (.int (k : Int))) (ts := fun k => [Dat (.int (k : Int))]) (E := fun _ => Dat (.bl true)) (i_tupM (f := fun (k : Nat) => T.int (k : Int)) (as := [y, x]) (x_var rfl)) (fun k _ => .one 2 _) (by decide) (sz1 (by show 2 ≤ _; decide)) fun k hk => ?_
    have hkn : k < n := by
      rcases List.mem_cons.mp hk with z | z
      · omega
      · have := List.mem_singleton.mp z; omega
    exact x_call ((k : Int), 0, (n : Int) - 1) trivial (a_cons (x_var rfl) (a_cons x_int (a_cons (e_sub (x_var rfl) x_int) a_nil))) (by
      show Dat (.bl (decide ((0 : Int) ≤ (k : Int)) && decide ((k : Int) ≤ (n : Int) - 1))) = _
      rw [decide_eq_true (by omega), decide_eq_true (by omega)]
      rfl)
  · refine s_ret R ((e_neI (i := (y : Int)) (j := (x : Int)) (x_ixC (n := 0) (x_var (P := Dat (.tup [.int (y : Int), .int (x : Int)])) rfl) rfl) (x_ixC (n := 1) (x_var (P := Dat (.tup [.int (y : Int), .int (x : Int)])) rfl) rfl)).cast ?_) q
    rw [decide_eq_false (by omega)]
    rfl
abbrev sp_Web_keep (c : CA) : Sp := SpK c.web (fun _ : PG => True) fun g => ([Dat (.int (g.cs.length : Int)), wsP g.ws], webF g)
theorem ok_Web_keep (F : Fun K "keep" "Web.keep" s_Web_keep f fd) (O : Own4 K c) : FnOk P w K mg base CX0 3 f fd ps_Web_keep (sp_Web_keep c) := by
  refine okK F sc_Web_keep (fun _ => rfl) fun cdv A outer s H E hr => ⟨_, (pss_cons (ps_fld (pv 0) (pv 1) rfl)
  (pss_one (ps_fld (pv 0) (pv 2) rfl))), fun g F x vs Q hp h0 R o q => ?_⟩
  refine s_fld R o h0 (x_var rfl) (x_var (P := Dat (.int (g.cs.length : Int))) rfl) O.web (by decide +kernel) (of_decide_eq_true rfl) fun F H R o => ?_
  refine s_fld R o h0 (x_var rfl) (x_var (P := wsP g.ws) rfl) O.web (by decide +kernel) (of_decide_eq_true rfl) fun F H R o => ?_
  exact q F H R.gr o
/-- pairs in order -/
theorem lex2 {a b c d : Nat} (h : a < c ∨ a = c ∧ b < d) : HT.lexLt [(a : Int), (b : Int)] [(c : Int), (d : Int)] = true := by
  rcases h with h | ⟨rfl, h⟩
  · have h1 : (a : Int) < (c : Int) := by omega
    simp [HT.lexLt, h1]
    omega
  · have h1 : (b : Int) < (d : Int) := by omega
    simp [HT.lexLt, h1]
    omega
abbrev sp_Web_init (c : CA) : Sp := SpN c.web (fun g : PG => PGOk g ∧ g.ws.length ≤ 1000) fun g => ([Dat (.int (g.cs.length : Int)), wsP g.ws], webP c g)
theorem ok_Web_init (F : Fun K "__init__" "Web.__init__" s_Web_init f fd) (B : Bi mg) (M : Mods mg) (O : Own4 K c) (G_is_within : GF P w K mg base "is_within" ps_is_within 4 sp_is_within f1 fd1) (G_is_wire_pair : GF P w K mg base "is_wire_pair" ps_is_wire_pair 5 sp_is_wire_pair f2 fd2) (M_Web_keep : GM P w K mg base c.web "keep" ps_Web_keep 3 (sp_Web_keep c) f3 fd3) :
    FnOk P w K mg base CX0 6 f fd ps_Web_init (sp_Web_init c) := by
  refine okN F sc_Web_init (fun _ => rfl) fun cdv A outer s H E hr => ⟨_, (pss_cons (ps_if (pt_not (pt_val (pe_f G_is_within (hr.mono (by decide)) rfl (pa_cons (pv 1) (pa_cons pe_int (pa_cons (pe_gint M.MOST_MACHINES_webs) pa_nil))))))
  (pss_one ps_never)
  pss_nil)
  (pss_cons (ps_if (pt_not (pt_val (pe_callB (kC (r := rIsi) (K := K) call_isi rfl) (by rfl) B.isinstance_ b_isinstance (pa_cons (pv 2) (pa_cons (pe_bltn (v := .ty "tuple") (by rfl) B.tuple_ b_tuple rfl) pa_nil)))))
  (pss_one ps_never)
  pss_nil)
  (pss_cons (ps_for PassesOwn.never rfl (kPI (r := iEnumT) (K := K) (pi_enumT rfl B.enumerate_ (pa_cons (pv 2) pa_nil)) rfl) (kPG (K := K) (pg_tup (n := 2) rfl (pgs_cons (pg_name (i := 3) sc_Web_init.nd rfl (Or.inl rfl)) (pgs_cons (pg_name (i := 4) sc_Web_init.nd rfl (Or.inl rfl)) pgs_nil))) rfl)
  (pss_one (ps_if (PW.pt (pw_or (pt_not (pt_val (pe_f G_is_wire_pair (hr.mono (by decide)) rfl (pa_cons (pv 1) (pa_cons (pv 4) pa_nil))))) (pw_or1 (PW.pt (pw_and (pt_cmpR oGtI (pv 3) pe_int (nomark _)) (pw_and1 (pt_not (pt_cmpR (kOp (r := rLtT) (K := K) (op_ltT (ru0 (hr.mono (by decide)))) rfl) (pe_ix (kIx (r := rIxT) (K := K) ix_tup rfl) (pv 2) (pe_op oSubI (pv 3) pe_int) (fun _ _ => rfl)) (pv 4) (nomark _)))))))))
  (pss_one ps_never)
  pss_nil)))
  (pss_one (ps_expr (pe_m M_Web_keep (hr.mono (by decide)) (pv 0) (pa_cons (pv 1) (pa_cons (pv 2) pa_nil)))))))), fun g F vs Q x hp R o q => ?_⟩
  obtain ⟨hg, hw⟩ : PGOk g ∧ g.ws.length ≤ 1000 := hp
  have h1 := hg.n1
  have h4 := hg.n4
  have h0 : hid H x x = none := hid_same
  replace q : ∀ F' H', Gr F (hid H x) F' H' → (webP c g).p F' (.ref x) → Q .non H' := q
  replace R : RS F (hid H x) F H (L2.start nm_Web_init vs) [some (Vl (.ref x)), some (Dat (.int (g.cs.length : Int))), some (wsP g.ws), none, none] := R
  refine g_ifF R ((x_not (x_test (x_call ((g.cs.length : Int), 1, 7) trivial (a_cons (x_var rfl) (a_cons x_int (a_cons x_int a_nil))) rfl)))) (by
    show (!(decide ((1 : Int) ≤ (g.cs.length : Int)) && decide ((g.cs.length : Int) ≤ 7))) = false
    rw [decide_eq_true (by omega), decide_eq_true (by omega)]
    rfl) fun F1 H1 g1 R => s_next ?_
  replace o := o.step g1
  have hisi : ∀ {Ps : Tys}, Ps[2]? = some (some (wsP g.ws)) → EvX (tCB (rIsi K) (tCons (tVar 2) (tCons (tC (.ty "tuple")) tNil))) Ps (Dat (.bl true)) := fun e => x_cb (a_cons (x_var e) (a_cons x_ty a_nil)) fun F H vs e p Q q => by
    cases p with
    | cons p1 p2 =>
      cases p2 with
      | cons p2 p3 =>
        cases p3
        cases p2
        exact ⟨_, _, _, _, true, rfl, .ty _, zup_isi e p1, kit_ty (by decide +kernel), q _ F H (.refl e) (.bl _)⟩
  refine g_ifF R (x_not (x_test (hisi rfl))) rfl fun F2 H2 g2 R => s_next ?_
  replace o := o.step g2
  have hen : ((List.zip ((List.range (g.ws.map fun q => Dat (enc q)).length).map fun (k : Nat) => Dat (.int (k : Int))) (g.ws.map fun q => Dat (enc q))).map fun p => TupP [p.1, p.2]) = ((List.range g.ws.length).zip g.ws).map fun q => TupP [Dat (.int (q.1 : Int)), Dat (enc q.2)] := by
    rw [List.length_map, List.zip_map, List.map_map]
    rfl
  let Pt : Nat → Tys := fun _ => [some (Vl (.ref x)), some (Dat (.int (g.cs.length : Int))), some (wsP g.ws), none, none]
  refine s_forI (K := K) (is := [3, 4]) (xs := (List.range g.ws.length).zip g.ws) (ι := fun q => TupP [Dat (.int (q.1 : Int)), Dat (enc q.2)]) (ts := fun q => [Dat (.int (q.1 : Int)), Dat (enc q.2)]) R (by rw [← hen]; exact i_enumZ (x_var (P := wsP g.ws) rfl)) Pt (fun _ F H => Op x c.web F H []) rfl o (fun q _ => .tup 2 [3, 4] _ rfl rfl) (fun t F H F' H' o gr => o.step gr) (fun Fb hFb t qq hqq F3 H3 σ2 R o => ?_) fun F3 H3 σ2 R o => ?_
  · obtain ⟨i, y, z⟩ := qq
    obtain ⟨a1, a2⟩ := List.getElem?_zip_eq_some.mp hqq
    have hi : t < g.ws.length := getElem?_lt a2
    rw [List.getElem?_range hi] at a1
    obtain rfl : t = i := Option.some.inj a1
    have hwok := hg.wok _ (List.mem_of_getElem? a2)
    replace R : RS _ _ F3 H3 σ2 [some (Vl (.ref x)), some (Dat (.int (g.cs.length : Int))), some (wsP g.ws), some (Dat (.int (t : Int))), some (Dat (enc (y, z)))] := R
    refine g_ifF R (x_or (b := false) (c := false) ((x_not (x_test (x_call (g.cs.length, y, z) hwok (a_cons (x_var rfl) (a_cons (x_var rfl) a_nil)) rfl))).cast rfl) fun _ => (x_and (b := decide ((0 : Int) < (t : Int))) (c := false) (x_test (e_gt (i := (t : Int)) (j := 0) (x_var rfl) x_int)) fun hb => ?_).cast (Bool.and_false _)) rfl fun F4 H4 g4 R => s_next ⟨F4, (R.forget 3).forget 4, o.step g4⟩
    have ht : 0 < t := by rw [decide_eq_true_eq] at hb; omega
    have b1 : g.ws[t - 1]? = some (g.ws[t - 1]'(by omega)) := List.getElem?_eq_getElem _
    generalize hpq : g.ws[t - 1]'(by omega) = pq at b1
    obtain ⟨y', z'⟩ := pq
    have hlt : y' < y ∨ y' = y ∧ z' < z := by
      have := List.pairwise_iff_getElem.mp hg.wlt (t - 1) t (by omega) hi (by omega)
      have e1 : g.ws[t] = (y, z) := (List.getElem?_eq_some_iff.mp a2).2
      rw [hpq, e1] at this
      exact this
    refine (x_not (x_test (x_op (P := Dat (enc (y', z'))) (P' := Dat (enc (y, z))) (R := Dat (.bl true)) (x_ixZ (n := t - 1) (x_var (P := wsP g.ws) rfl) ((e_sub (i := (t : Int)) (j := 1) (x_var rfl) x_int).cast (by rw [show (t : Int) - 1 = ((t - 1 : Nat) : Int) by omega])) (by rw [List.getElem?_map, b1]; rfl)) (x_var rfl) fun F H u v e p1 p2 Q q => ?_))).cast rfl
    obtain ⟨a, xs, rfl, k1, k2⟩ := dat_tup.mp p1
    obtain ⟨b, ys, rfl, m1, m2⟩ := dat_tup.mp p2
    have ex : xs = [(y' : Int), (z' : Int)].map V.int := by
      cases k2 with
      | cons u1 u2 =>
        cases u2 with
        | cons u2 u3 =>
          cases u3
          rw [dat_int u1, dat_int u2]
          rfl
    have ey : ys = [(y : Int), (z : Int)].map V.int := by
      cases m2 with
      | cons u1 u2 =>
        cases u2 with
        | cons u2 u3 =>
          cases u3
          rw [dat_int u1, dat_int u2]
          rfl
    subst ex ey
    exact ⟨a, b, _, _, rfl, rfl, SqT.of (e _ _ k1), SqT.of (e _ _ m1), by rw [lex2 hlt]; exact q _ F H (.refl e) (.bl _)⟩
  · refine so_keep R o h0 g trivial (x_var rfl) (a_cons (x_var rfl) (a_cons (x_var rfl) a_nil)) fun F4 H4 R o => ?_
    obtain ⟨F5, R5, s5, p5⟩ := s_seal R o h0
    exact s_nx (q _ _ R5.gr p5)
end
end G
namespace G
open PySem PySem.Spec PyProof.Rows L2
open Enc (enc)
abbrev s_is_part : Stmt := top 50
abbrev nm_is_part : List Str := ["owners", "machine", "size", "kind", "thing"]
abbrev ps_is_part : List Str := ["owners", "machine", "size", "kind", "thing"]
theorem sc_is_part : FnScope nm_is_part ps_is_part (defScope s_is_part) := ⟨rfl, rfl, rfl, by decide +kernel, rfl, by decide +kernel, by decide +kernel⟩
abbrev s_is_row_of : Stmt := top 51
abbrev nm_is_row_of : List Str := ["owners", "machine", "size", "thing", "form", "kind", "part"]
abbrev ps_is_row_of : List Str := ["owners", "machine", "size", "thing"]
theorem sc_is_row_of : FnScope nm_is_row_of ps_is_row_of (defScope s_is_row_of) := ⟨rfl, rfl, rfl, by decide +kernel, rfl, by decide +kernel, by decide +kernel⟩
abbrev s_Program_init : Stmt := inClass (top 52) 0
abbrev nm_Program_init : List Str := ["self", "owners", "codes", "cell", "owner", "machine", "code", "at", "row"]
abbrev ps_Program_init : List Str := ["self", "owners", "codes"]
theorem sc_Program_init : FnScope nm_Program_init ps_Program_init (defScope s_Program_init) := ⟨rfl, rfl, rfl, by decide +kernel, rfl, by decide +kernel, by decide +kernel⟩
abbrev s_Program_keep : Stmt := inClass (top 52) 1
abbrev nm_Program_keep : List Str := ["self", "owners", "codes"]
abbrev ps_Program_keep : List Str := ["self", "owners", "codes"]
theorem sc_Program_keep : FnScope nm_Program_keep ps_Program_keep (defScope s_Program_keep) := ⟨rfl, rfl, rfl, by decide +kernel, rfl, by decide +kernel, by decide +kernel⟩
/-- a part of a row, by its kind -/
def PartOk (os : List Nat) (machine size : Nat) (k : Str) (i : Int) : Prop :=
  (k = "r" ∧ 0 ≤ i ∧ i ≤ 7) ∨ (k = "n" ∧ -1000000 ≤ i ∧ i ≤ 1000000) ∨ (k = "t" ∧ 0 ≤ i ∧ i ≤ size) ∨ (k = "c" ∧ 0 ≤ i ∧ i < os.length) ∨ (k = "o" ∧ ∃ j : Nat, i = j ∧ os[j]? = some machine)
def parts : Row → List (Str × Int)
  | .set r n => [("r", r), ("n", n)] | .copy r s => [("r", r), ("r", s)] | .add r s t => [("r", r), ("r", s), ("r", t)] | .take r s t => [("r", r), ("r", s), ("r", t)] | .put c r => [("o", c), ("r", r)] | .look r c => [("r", r), ("c", c)] | .tell r => [("r", r)] | .rest => []
  | .same r s to => [("r", r), ("r", s), ("t", to)] | .less r s to => [("r", r), ("r", s), ("t", to)] | .go to => [("t", to)] | .call to => [("t", to)] | .back => []
def formOf : Row → Str
  | .set .. => "rn" | .copy .. => "rr" | .add .. => "rrr" | .take .. => "rrr" | .put .. => "or" | .look .. => "rc" | .tell .. => "r" | .rest => "" | .same .. => "rrt" | .less .. => "rrt" | .go .. => "t" | .call .. => "t" | .back => ""
theorem form_in (r : Row) : (wordOf r, formOf r) ∈ formsL := by cases r <;> simp only [wordOf, formOf] <;> decide +kernel
theorem form_chars (r : Row) : chars (formOf r) = (parts r).map (·.1) := by cases r <;> simp only [formOf, parts, List.map] <;> decide +kernel
theorem form_args (r : Row) : argsOf r = (parts r).map fun p => .int p.2 := by cases r <;> rfl
theorem form_len (r : Row) : (formOf r).length = (parts r).length := by cases r <;> simp only [formOf, parts, List.length] <;> decide +kernel
theorem parts_len (r : Row) : (parts r).length ≤ 3 := by cases r <;> simp [parts]
theorem parts_ok {os : List Nat} {i len : Nat} {r : Row} (h : RowOk os i len r) : ∀ p ∈ parts r, PartOk os i len p.1 p.2 := by
  have R : ∀ {j : Nat}, j < 8 → PartOk os i len "r" (j : Int) := fun h => .inl ⟨rfl, by omega, by omega⟩
  have N : ∀ {j : Int}, -1000000 ≤ j → j ≤ 1000000 → PartOk os i len "n" j := fun h h' => .inr (.inl ⟨rfl, h, h'⟩)
  have T : ∀ {j : Nat}, j ≤ len → PartOk os i len "t" (j : Int) := fun h => .inr (.inr (.inl ⟨rfl, by omega, by omega⟩))
  have C : ∀ {j : Nat}, j < os.length → PartOk os i len "c" (j : Int) := fun h => .inr (.inr (.inr (.inl ⟨rfl, by omega, by omega⟩)))
  have O : ∀ {j : Nat}, os[j]? = some i → PartOk os i len "o" (j : Int) := fun {j} h => .inr (.inr (.inr (.inr ⟨rfl, j, rfl, h⟩)))
  have two : ∀ {a b : Str × Int}, PartOk os i len a.1 a.2 → PartOk os i len b.1 b.2 → ∀ p ∈ [a, b], PartOk os i len p.1 p.2 := fun h1 h2 p hp => by
    rcases List.mem_cons.mp hp with rfl | hp
    · exact h1
    · rw [List.mem_singleton.mp hp]; exact h2
  have one : ∀ {a : Str × Int}, PartOk os i len a.1 a.2 → ∀ p ∈ [a], PartOk os i len p.1 p.2 := fun h1 p hp => by rw [List.mem_singleton.mp hp]; exact h1
  have thr : ∀ {a b c : Str × Int}, PartOk os i len a.1 a.2 → PartOk os i len b.1 b.2 → PartOk os i len c.1 c.2 → ∀ p ∈ [a, b, c], PartOk os i len p.1 p.2 := fun h1 h2 h3 p hp => by
    rcases List.mem_cons.mp hp with rfl | hp
    · exact h1
    · exact two h2 h3 p hp
  cases r with
  | set r n => exact two (R h.1) (N h.2.1 h.2.2)
  | copy r s => exact two (R h.1) (R h.2)
  | add r s t => exact thr (R h.1) (R h.2.1) (R h.2.2)
  | take r s t => exact thr (R h.1) (R h.2.1) (R h.2.2)
  | put c r => exact two (O h.1) (R h.2)
  | look r c => exact two (R h.1) (C h.2)
  | tell r => exact one (R h)
  | rest => exact fun p hp => absurd hp List.not_mem_nil
  | same r s to => exact thr (R h.1) (R h.2.1) (T h.2.2)
  | less r s to => exact thr (R h.1) (R h.2.1) (T h.2.2)
  | go to => exact one (T h)
  | call to => exact one (T h)
  | back => exact fun p hp => absurd hp List.not_mem_nil
section
variable {P : Program} {w : World} {K : PySem.W.Frag} {mg : Str → Option Value} {base : Heap} {f f1 f2 f3 f4 f5 : Addr} {fd fd1 fd2 fd3 fd4 fd5 : FuncData} {c : CA}
structure PartPre where
  os : List Nat
  m : Nat
  n : Nat
  k : Str
  i : Int
abbrev sp_is_part : Sp := SpG (fun i : PartPre => PartOk i.os i.m i.n i.k i.i) fun i => ([Dat (osT i.os), Dat (.int (i.m : Int)), Dat (.int (i.n : Int)), Dat (.str i.k), Dat (.int i.i)], Dat (.bl true))
theorem within {Ps : Tys} {ta tb tc : TE} {a b c : Int} {E : XK} (h1 : EvX ta Ps (Dat (.int a))) (h2 : EvX tb Ps (Dat (.int b))) (h3 : EvX tc Ps (Dat (.int c))) (hb : b ≤ a) (hc : a ≤ c) : EvX (tCall sp_is_within [] E (tCons ta (tCons tb (tCons tc tNil)))) Ps (Dat (.bl true)) :=
  x_call (a, b, c) trivial (a_cons h1 (a_cons h2 (a_cons h3 a_nil))) (by
    show Dat (.bl (decide (b ≤ a) && decide (a ≤ c))) = _
    rw [decide_eq_true hb, decide_eq_true hc]
    rfl)
theorem ok_is_part (F : Fun K "is_part" "is_part" s_is_part f fd) (B : Bi mg) (M : Mods mg) (G_is_within : GF P w K mg base "is_within" ps_is_within 4 sp_is_within f1 fd1) : FnOk P w K mg base CX0 5 f fd ps_is_part sp_is_part := by
  refine okG F sc_is_part (fun _ => rfl) fun cdv A outer s H E hr => ⟨_, (pss_cons (ps_if (pt_cmpR oEqS (pv 3) pe_str (nomark _))
  (pss_one (ps_ret (pe_f G_is_within (hr.mono (by decide)) rfl (pa_cons (pv 4) (pa_cons pe_int (pa_cons (pe_op oSubI (pe_gint M.REGISTERS_programs) pe_int) pa_nil))))))
  pss_nil)
  (pss_cons (ps_if (pt_cmpR oEqS (pv 3) pe_str (nomark _))
  (pss_one (ps_ret (pe_f G_is_within (hr.mono (by decide)) rfl (pa_cons (pv 4) (pa_cons (pe_un uNeg (pe_gint M.MOST_SET)) (pa_cons (pe_gint M.MOST_SET) pa_nil))))))
  pss_nil)
  (pss_cons (ps_if (pt_cmpR oEqS (pv 3) pe_str (nomark _))
  (pss_one (ps_ret (pe_f G_is_within (hr.mono (by decide)) rfl (pa_cons (pv 4) (pa_cons pe_int (pa_cons (pv 2) pa_nil))))))
  pss_nil)
  (pss_cons (ps_if (pt_not (pt_val (pe_f G_is_within (hr.mono (by decide)) rfl (pa_cons (pv 4) (pa_cons pe_int (pa_cons (pe_op oSubI (pe_callB (kC (r := rLenG) (K := K) cLen rfl) (by rfl) B.len_ b_len (pa_cons (pv 0) pa_nil)) pe_int) pa_nil))))))
  (pss_one (ps_ret pe_bl))
  pss_nil)
  (pss_one (ps_ret (pe_or (pe_cmpR oEqS (pv 3) pe_str (nomark _)) (pe_one (pe_cmpR oEqS (pe_ix (kIx (r := rIxT) (K := K) ix_tup rfl) (pv 0) (pv 4) (fun _ _ => rfl)) (pv 1) (nomark _)))))))))), fun i F vs Q hp R q => ?_⟩
  obtain ⟨os, m, n, k, i⟩ := i
  replace hp : PartOk os m n k i := hp
  replace q : ∀ v F' H', Gr F H F' H' → (Dat (.bl true)).p F' v → Q v H' := q
  replace R : RS F H F H (L2.start nm_is_part vs) [some (Dat (osT os)), some (Dat (.int (m : Int))), some (Dat (.int (n : Int))), some (Dat (.str k)), some (Dat (.int i))] := R
  rcases hp with ⟨rfl, h1, h2⟩ | ⟨rfl, h1, h2⟩ | ⟨rfl, h1, h2⟩ | ⟨rfl, h1, h2⟩ | ⟨rfl, j, rfl, hj⟩
  · exact s_ifT R (x_test (e_eqS (x_var rfl) x_str)) (by decide +kernel) fun F H R => s_ret R (within (x_var rfl) x_int (e_sub x_int x_int) h1 (by omega)) q
  · refine s_ifF R (x_test (e_eqS (x_var rfl) x_str)) (by decide +kernel) fun F H R => s_next ?_
    exact s_ifT R (x_test (e_eqS (x_var rfl) x_str)) (by decide +kernel) fun F H R => s_ret R (within (x_var rfl) (e_neg x_int) x_int h1 h2) q
  · refine s_ifF R (x_test (e_eqS (x_var rfl) x_str)) (by decide +kernel) fun F H R => s_next ?_
    refine s_ifF R (x_test (e_eqS (x_var rfl) x_str)) (by decide +kernel) fun F H R => s_next ?_
    exact s_ifT R (x_test (e_eqS (x_var rfl) x_str)) (by decide +kernel) fun F H R => s_ret R (within (x_var rfl) x_int (x_var rfl) h1 h2) q
  · refine s_ifF R (x_test (e_eqS (x_var rfl) x_str)) (by decide +kernel) fun F H R => s_next ?_
    refine s_ifF R (x_test (e_eqS (x_var rfl) x_str)) (by decide +kernel) fun F H R => s_next ?_
    refine s_ifF R (x_test (e_eqS (x_var rfl) x_str)) (by decide +kernel) fun F H R => s_next ?_
    refine s_ifF R (x_not (x_test (within (x_var rfl) x_int (e_sub (e_lenE (as := os) (x_var rfl)) x_int) h1 (by omega)))) rfl fun F H R => s_next ?_
    exact s_ret R ((x_orV (b := true) (c := true) ((e_eqS (x_var rfl) x_str).cast (congrArg (fun b => Dat (.bl b)) (by decide +kernel))) fun h => by cases h).cast rfl) q
  · have hjl := getElem?_lt hj
    refine s_ifF R (x_test (e_eqS (x_var rfl) x_str)) (by decide +kernel) fun F H R => s_next ?_
    refine s_ifF R (x_test (e_eqS (x_var rfl) x_str)) (by decide +kernel) fun F H R => s_next ?_
    refine s_ifF R (x_test (e_eqS (x_var rfl) x_str)) (by decide +kernel) fun F H R => s_next ?_
    refine s_ifF R (x_not (x_test (within (x_var rfl) x_int (e_sub (e_lenE (as := os) (x_var rfl)) x_int) (by omega) (by omega)))) rfl fun F H R => s_next ?_
    refine s_ret R ((x_orV (b := false) (c := true) ((e_eqS (x_var rfl) x_str).cast (congrArg (fun b => Dat (.bl b)) (by decide +kernel))) fun _ => (e_eqI (i := (m : Int)) (j := (m : Int)) (x_ixV (n := j) (ts := os.map enc) (x_var rfl) (x_var rfl) (by rw [List.getElem?_map, hj]; rfl)) (x_var rfl)).cast (by rw [decide_eq_true rfl])).cast rfl) q
structure RowPre where
  os : List Nat
  m : Nat
  n : Nat
  r : Row
abbrev sp_is_row_of : Sp := SpG (fun i : RowPre => RowOk i.os i.m i.n i.r) fun i => ([Dat (osT i.os), Dat (.int (i.m : Int)), Dat (.int (i.n : Int)), Dat (rowT i.r)], Dat (.bl true))
theorem ok_is_row_of (F : Fun K "is_row_of" "is_row_of" s_is_row_of f fd) (B : Bi mg) {fo : Addr} (FO : FormsOk K w mg fo) (G_is_row : GF P w K mg base "is_row" ps_is_row 3 sp_is_row f1 fd1) (G_is_part : GF P w K mg base "is_part" ps_is_part 5 sp_is_part f2 fd2) : FnOk P w K mg base CX0 6 f fd ps_is_row_of sp_is_row_of := by
  refine okG F sc_is_row_of (fun _ => rfl) fun cdv A outer s H E hr => ⟨_, (pss_cons (ps_if (PW.pt (pw_or (pt_not (pt_val (pe_callB (kC (r := rIsi) (K := K) call_isi rfl) (by rfl) B.isinstance_ b_isinstance (pa_cons (pv 3) (pa_cons (pe_bltn (v := .ty "tuple") (by rfl) B.tuple_ b_tuple rfl) pa_nil))))) (pw_or (pt_cmpR oEqS (pe_callB (kC (r := rLenG) (K := K) cLen rfl) (by rfl) B.len_ b_len (pa_cons (pv 3) pa_nil)) pe_int (nomark _)) (pw_or (pt_not (pt_val (pe_callB (kC (r := rIsi) (K := K) call_isi rfl) (by rfl) B.isinstance_ b_isinstance (pa_cons (pe_ix (kIx (r := rIxT) (K := K) ix_tup rfl) (pv 3) pe_int (fun _ _ => rfl)) (pa_cons (pe_bltn (v := .ty "str") (by rfl) B.str_ b_str rfl) pa_nil))))) (pw_or1 (pt_cmpR (r := rNinK K w) oNinK (pe_ix (kIx (r := rIxT) (K := K) ix_tup rfl) (pv 3) pe_int (fun _ _ => rfl)) (pe_forms FO) rfl))))))
  (pss_one (ps_ret pe_bl))
  pss_nil)
  (pss_cons (ps_set (i := 4) sc_is_row_of.nd rfl (Or.inl rfl) (pe_ix (r := rIxD K w) ix_kdict (pe_forms FO) (pe_ix (kIx (r := rIxT) (K := K) ix_tup rfl) (pv 3) pe_int (fun _ _ => rfl)) (fun _ _ => rfl)))
  (pss_cons (ps_if (pt_not (pt_val (pe_f G_is_row (hr.mono (by decide)) rfl (pa_cons (pv 3) (pa_cons (pe_op oAddI (pe_callB cLenS (by rfl) B.len_ b_len (pa_cons (pv 4) pa_nil)) pe_int) pa_nil)))))
  (pss_one (ps_ret pe_bl))
  pss_nil)
  (pss_one (ps_ret (pe_callB (kC (r := rAll) (K := K) (cAll rfl) rfl) (by rfl) B.all_ b_all (pa_cons (pe_lc (own := [("kind", 5), ("part", 6)]) rfl sc_is_row_of.nd (kPI (r := iZipS) (K := K) (pi_zipS rfl B.zip_ (pa_cons (pv 4) (pa_cons (pe_slice (kSl (r := rSlA) (K := K) sl_tupA rfl) (pv 3) (po_some pe_int) po_none) pa_nil))) rfl) (blkOk_by (N := nm_is_row_of) (sc := defScope s_is_row_of) (by decide +kernel)) (fun _ _ _ _ _ => (kPG (K := K) (pg_tup (n := 2) rfl (pgs_cons (pg_name (i := 5) sc_is_row_of.nd rfl (Or.inl rfl)) (pgs_cons (pg_name (i := 6) sc_is_row_of.nd rfl (Or.inl rfl)) pgs_nil))) rfl)) (fun _ _ _ _ _ => pts_nil) (fun _ _ _ _ _ => (pe_f G_is_part (hr.mono (by decide)) rfl (pa_cons (pv 0) (pa_cons (pv 1) (pa_cons (pv 2) (pa_cons (pv 5) (pa_cons (pv 6) pa_nil)))))))) pa_nil))))))), fun i F vs Q hp R q => ?_⟩
  obtain ⟨os, m, n, r⟩ := i
  replace hp : RowOk os m n r := hp
  replace q : ∀ v F' H', Gr F H F' H' → (Dat (.bl true)).p F' v → Q v H' := q
  replace R : RS F H F H (L2.start nm_is_row_of vs) [some (Dat (osT os)), some (Dat (.int (m : Int))), some (Dat (.int (n : Int))), some (Dat (rowT r)), none, none, none] := R
  rw [rowT_eq r] at R
  have hl := parts_len r
  have hal : (argsOf r).length = (parts r).length := by rw [form_args, List.length_map]
  have w0 : ∀ {Ps : Tys}, Ps[3]? = some (some (Dat (.tup (.str (wordOf r) :: argsOf r)))) → EvX (tOp (rIxT K) (tVar 3) (tC (.int 0))) Ps (Dat (.str (wordOf r))) := fun e => x_ixC (n := 0) (x_var e) rfl
  refine s_ifF R (x_or (b := false) (c := false) ((x_not (x_test (e_isi (x_var rfl) (kit_tuple _)))).cast rfl) fun _ => (x_or (b := false) (c := false) ((x_test (e_eqI (e_lenD (x_var rfl)) x_int)).cast (decide_eq_false (by rw [List.length_cons]; omega))) fun _ => (x_or (b := false) (c := false) ((x_not (x_test (e_isi (w0 rfl) (kit_str _)))).cast rfl) fun _ => x_test (e_ninK FO (form_in r) (w0 rfl))))) rfl fun F H R => s_next ?_
  refine s_asgS R (P := Dat (.str (formOf r))) (e_getK FO (form_in r) (w0 rfl)) fun F H σ R => ?_
  refine s_ifF R ((x_not (x_test (x_call (P := Dat (.bl true)) (wordOf r, argsOf r) trivial (a_cons (x_var rfl) (a_cons ((e_add (e_lenS (x_var rfl) (big2 (by rw [form_len]; omega))) x_int).cast (by rw [form_len, ← hal]; rfl)) a_nil)) rfl))).cast rfl) rfl fun F H R => s_next ?_
  refine s_ret R ((e_all (bs := (parts r).map fun _ => true) ?_).cast (by rw [all_yes])) q
  rw [List.map_map]
  refine x_lcM (K := K) (is := [5, 6]) (xs := parts r) (ι := fun p => TupP [Dat (.str p.1), Dat (.int p.2)]) (ts := fun p => [Dat (.str p.1), Dat (.int p.2)]) (E := fun _ => Dat (.bl true)) ?_ (fun q _ => .tup 2 [5, 6] _ rfl rfl) (by decide) (sz1 (by omega)) fun p hp' => ?_
  · have hz : ((List.zip ((chars (formOf r)).map fun c => Dat (.str c)) ((argsOf r).map Dat)).map fun p => TupP [p.1, p.2]) = (parts r).map fun p => TupP [Dat (.str p.1), Dat (.int p.2)] := by
      rw [form_chars, form_args, List.map_map, List.map_map, List.zip_map', List.map_map]
      rfl
    rw [← hz]
    exact i_zipS (x_var rfl) (ev_untup (x_slD (ts := .str (wordOf r) :: argsOf r) (x_var rfl) (o_some (i := 1) x_int) o_none (cut_from _ 1)))
  · exact x_call (PartPre.mk os m n p.1 p.2) (parts_ok hp p hp') (a_cons (x_var rfl) (a_cons (x_var rfl) (a_cons (x_var rfl) (a_cons (x_var rfl) (a_cons (x_var rfl) a_nil))))) rfl
abbrev sp_Program_keep (c : CA) : Sp := SpK c.prog (fun _ : PG => True) fun g => ([Dat (osT g.os), Dat (csT g.cs)], progF g)
theorem ok_Program_keep (F : Fun K "keep" "Program.keep" s_Program_keep f fd) (O : Own4 K c) : FnOk P w K mg base CX0 3 f fd ps_Program_keep (sp_Program_keep c) := by
  refine okK F sc_Program_keep (fun _ => rfl) fun cdv A outer s H E hr => ⟨_, (pss_cons (ps_fld (pv 0) (pv 1) rfl)
  (pss_one (ps_fld (pv 0) (pv 2) rfl))), fun g F x vs Q hp h0 R o q => ?_⟩
  refine s_fld R o h0 (x_var rfl) (x_var (P := Dat (osT g.os)) rfl) O.prog (by decide +kernel) (of_decide_eq_true rfl) fun F H R o => ?_
  refine s_fld R o h0 (x_var rfl) (x_var (P := Dat (csT g.cs)) rfl) O.prog (by decide +kernel) (of_decide_eq_true rfl) fun F H R o => ?_
  exact q F H R.gr o
abbrev sp_Program_init (c : CA) : Sp := SpN c.prog (fun g : PG => PGOk g) fun g => ([Dat (osT g.os), Dat (csT g.cs)], progP c g)
theorem enum_any {α : Type} (f : α → Ty) (as : List α) : ((List.zip ((List.range (as.map f).length).map fun (k : Nat) => Dat (.int (k : Int))) (as.map f)).map fun p => TupP [p.1, p.2]) = ((List.range as.length).zip as).map fun q => TupP [Dat (.int (q.1 : Int)), f q.2] := by
  rw [List.length_map, List.zip_map, List.map_map]
  rfl
theorem zip_range {α : Type} {as : List α} {t : Nat} {q : Nat × α} (h : ((List.range as.length).zip as)[t]? = some q) : q.1 = t ∧ as[t]? = some q.2 := by
  obtain ⟨a1, a2⟩ := List.getElem?_zip_eq_some.mp h
  rw [List.getElem?_range (getElem?_lt a2)] at a1
  exact ⟨(Option.some.inj a1).symm, a2⟩
theorem sized {Ps : Tys} {ta tb tc : TE} {Qs : List Ty} {b d : Int} {E : XK} (h1 : EvX ta Ps (TupP Qs)) (h2 : EvX tb Ps (Dat (.int b))) (h3 : EvX tc Ps (Dat (.int d))) (hb : b ≤ (Qs.length : Int)) (hc : (Qs.length : Int) ≤ d) : EvX (tCall sp_is_sized [] E (tCons ta (tCons tb (tCons tc tNil)))) Ps (Dat (.bl true)) :=
  x_call (Qs, b, d) trivial (a_cons h1 (a_cons h2 (a_cons h3 a_nil))) (by
    show Dat (.bl (decide (b ≤ (Qs.length : Int)) && decide ((Qs.length : Int) ≤ d))) = _
    rw [decide_eq_true hb, decide_eq_true hc]
    rfl)
theorem ok_Program_init (F : Fun K "__init__" "Program.__init__" s_Program_init f fd) (B : Bi mg) (M : Mods mg) (G_is_sized : GF P w K mg base "is_sized" ps_is_sized 3 sp_is_sized f1 fd1) (G_is_within : GF P w K mg base "is_within" ps_is_within 4 sp_is_within f2 fd2) (G_is_row_of : GF P w K mg base "is_row_of" ps_is_row_of 6 sp_is_row_of f3 fd3) (M_Program_keep : GM P w K mg base c.prog "keep" ps_Program_keep 3 (sp_Program_keep c) f4 fd4) :
    FnOk P w K mg base CX0 7 f fd ps_Program_init (sp_Program_init c) := by
  refine okN F sc_Program_init (fun _ => rfl) fun cdv A outer s H E hr => ⟨_, (pss_cons (ps_if (pt_not (pt_val (pe_f G_is_sized (hr.mono (by decide)) rfl (pa_cons (pv 2) (pa_cons pe_int (pa_cons (pe_gint M.MOST_MACHINES_programs) pa_nil))))))
  (pss_one ps_never)
  pss_nil)
  (pss_cons (ps_if (pt_not (pt_val (pe_f G_is_sized (hr.mono (by decide)) rfl (pa_cons (pv 1) (pa_cons pe_int (pa_cons (pe_gint M.MOST_CELLS) pa_nil))))))
  (pss_one ps_never)
  pss_nil)
  (pss_cons (ps_for PassesOwn.never rfl (kPI (r := iEnumT) (K := K) (pi_enumT rfl B.enumerate_ (pa_cons (pv 1) pa_nil)) rfl) (kPG (K := K) (pg_tup (n := 2) rfl (pgs_cons (pg_name (i := 3) sc_Program_init.nd rfl (Or.inl rfl)) (pgs_cons (pg_name (i := 4) sc_Program_init.nd rfl (Or.inl rfl)) pgs_nil))) rfl)
  (pss_one (ps_if (pt_not (pt_val (pe_f G_is_within (hr.mono (by decide)) rfl (pa_cons (pv 4) (pa_cons pe_int (pa_cons (pe_op oSubI (pe_callB (kC (r := rLenG) (K := K) cLen rfl) (by rfl) B.len_ b_len (pa_cons (pv 2) pa_nil)) pe_int) pa_nil))))))
  (pss_one ps_never)
  pss_nil)))
  (pss_cons (ps_for PassesOwn.never rfl (kPI (r := iEnumT) (K := K) (pi_enumT rfl B.enumerate_ (pa_cons (pv 2) pa_nil)) rfl) (kPG (K := K) (pg_tup (n := 2) rfl (pgs_cons (pg_name (i := 5) sc_Program_init.nd rfl (Or.inl rfl)) (pgs_cons (pg_name (i := 6) sc_Program_init.nd rfl (Or.inl rfl)) pgs_nil))) rfl)
  (pss_one (ps_if (pt_not (pt_val (pe_f G_is_sized (hr.mono (by decide)) rfl (pa_cons (pv 6) (pa_cons pe_int (pa_cons (pe_gint M.MOST_ROWS) pa_nil))))))
  (pss_one ps_never)
  pss_nil)))
  (pss_cons (ps_for PassesOwn.never rfl (kPI (r := iEnumT) (K := K) (pi_enumT rfl B.enumerate_ (pa_cons (pv 2) pa_nil)) rfl) (kPG (K := K) (pg_tup (n := 2) rfl (pgs_cons (pg_name (i := 5) sc_Program_init.nd rfl (Or.inl rfl)) (pgs_cons (pg_name (i := 6) sc_Program_init.nd rfl (Or.inl rfl)) pgs_nil))) rfl)
  (pss_one (ps_for PassesOwn.never rfl (kPI (r := iEnumT) (K := K) (pi_enumT rfl B.enumerate_ (pa_cons (pv 6) pa_nil)) rfl) (kPG (K := K) (pg_tup (n := 2) rfl (pgs_cons (pg_name (i := 7) sc_Program_init.nd rfl (Or.inl rfl)) (pgs_cons (pg_name (i := 8) sc_Program_init.nd rfl (Or.inl rfl)) pgs_nil))) rfl)
  (pss_one (ps_if (pt_not (pt_val (pe_f G_is_row_of (hr.mono (by decide)) rfl (pa_cons (pv 1) (pa_cons (pv 5) (pa_cons (pe_callB (kC (r := rLenG) (K := K) cLen rfl) (by rfl) B.len_ b_len (pa_cons (pv 6) pa_nil)) (pa_cons (pv 8) pa_nil)))))))
  (pss_one ps_never)
  pss_nil)))))
  (pss_one (ps_expr (pe_m M_Program_keep (hr.mono (by decide)) (pv 0) (pa_cons (pv 1) (pa_cons (pv 2) pa_nil)))))))))), fun g F vs Q x hp R o q => ?_⟩
  have hg : PGOk g := hp
  have n1 := hg.n1
  have n4 := hg.n4
  have o1 := hg.o1
  have o3 := hg.o3
  have h0 : hid H x x = none := hid_same
  replace q : ∀ F' H', Gr F (hid H x) F' H' → (progP c g).p F' (.ref x) → Q .non H' := q
  let Pt : Nat → Tys := fun _ => [some (Vl (.ref x)), some (Dat (osT g.os)), some (Dat (csT g.cs)), none, none, none, none, none, none]
  have hcl : (((g.cs.map codeT).map Dat).length : Int) = (g.cs.length : Int) := by rw [List.length_map, List.length_map]
  have hol : (((g.os.map enc).map Dat).length : Int) = (g.os.length : Int) := by rw [List.length_map, List.length_map]
  replace R : RS F (hid H x) F H (L2.start nm_Program_init vs) (Pt 0) := R
  refine g_ifF R (x_not (x_test (sized (ev_untup (x_var (P := Dat (csT g.cs)) rfl)) x_int x_int (by omega) (by omega)))) rfl fun F1 H1 gr R => s_next ?_
  replace o := o.step gr
  refine g_ifF R (x_not (x_test (sized (ev_untup (x_var (P := Dat (osT g.os)) rfl)) x_int x_int (by omega) (by omega)))) rfl fun F1 H1 gr R => s_next ?_
  replace o := o.step gr
  have hen1 : ((List.zip ((List.range ((g.os.map enc).map Dat).length).map fun (k : Nat) => Dat (.int (k : Int))) ((g.os.map enc).map Dat)).map fun p => TupP [p.1, p.2]) = ((List.range g.os.length).zip g.os).map fun q => TupP [Dat (.int (q.1 : Int)), Dat (.int (q.2 : Int))] := by
    rw [List.map_map]
    exact enum_any (fun a => Dat (enc a)) g.os
  have hen2 : ((List.zip ((List.range ((g.cs.map codeT).map Dat).length).map fun (k : Nat) => Dat (.int (k : Int))) ((g.cs.map codeT).map Dat)).map fun p => TupP [p.1, p.2]) = ((List.range g.cs.length).zip g.cs).map fun q => TupP [Dat (.int (q.1 : Int)), Dat (codeT q.2)] := by
    rw [List.map_map]
    exact enum_any (fun a => Dat (codeT a)) g.cs
  have hen3 : ∀ code : List Row, ((List.zip ((List.range ((code.map rowT).map Dat).length).map fun (k : Nat) => Dat (.int (k : Int))) ((code.map rowT).map Dat)).map fun p => TupP [p.1, p.2]) = ((List.range code.length).zip code).map fun q => TupP [Dat (.int (q.1 : Int)), Dat (rowT q.2)] := fun code => by
    rw [List.map_map]
    exact enum_any (fun a => Dat (rowT a)) code
  have hcodes : ∀ {Ps : Tys}, Ps[2]? = some (some (Dat (csT g.cs))) → EvX (tCB (rLenG K) (tCons (tVar 2) tNil)) Ps (Dat (.int (g.cs.length : Int))) := fun e => e_csLen (x_var e)
  refine s_forI (K := K) (is := [3, 4]) (xs := (List.range g.os.length).zip g.os) (ι := fun q => TupP [Dat (.int (q.1 : Int)), Dat (.int (q.2 : Int))]) (ts := fun q => [Dat (.int (q.1 : Int)), Dat (.int (q.2 : Int))]) R (by rw [← hen1]; exact i_enumT (ev_untup (x_var (P := Dat (osT g.os)) rfl))) Pt (fun _ F H => Op x c.prog F H []) rfl o (fun q _ => .tup 2 [3, 4] _ rfl rfl) (fun t F H F' H' o gr => o.step gr) (fun Fb hFb t qq hqq F3 H3 σ2 R o => ?_) fun F3 H3 σ2 R o => ?_
  · obtain ⟨a, b⟩ := qq
    obtain ⟨_, a2⟩ := zip_range hqq
    have hb := hg.own _ (List.mem_of_getElem? a2)
    simp only at hb
    replace R : RS _ _ F3 H3 σ2 [some (Vl (.ref x)), some (Dat (osT g.os)), some (Dat (csT g.cs)), some (Dat (.int (a : Int))), some (Dat (.int (b : Int))), none, none, none, none] := R
    exact g_ifF R (x_not (x_test (within (x_var rfl) x_int (e_sub (hcodes rfl) x_int) (by omega) (by omega)))) rfl fun F4 H4 g4 R => s_next ⟨F4, (R.forget 3).forget 4, o.step g4⟩
  refine s_nx (s_forI (K := K) (is := [5, 6]) (xs := (List.range g.cs.length).zip g.cs) (ι := fun q => TupP [Dat (.int (q.1 : Int)), Dat (codeT q.2)]) (ts := fun q => [Dat (.int (q.1 : Int)), Dat (codeT q.2)]) R (by rw [← hen2]; exact i_enumT (ev_untup (x_var (P := Dat (csT g.cs)) rfl))) Pt (fun _ F H => Op x c.prog F H []) rfl o (fun q _ => .tup 2 [5, 6] _ rfl rfl) (fun t F H F' H' o gr => o.step gr) (fun Fb hFb t qq hqq F3 H3 σ2 R o => ?_) fun F3 H3 σ2 R o => ?_)
  · obtain ⟨a, code⟩ := qq
    obtain ⟨_, a2⟩ := zip_range hqq
    have hlen : code.length ≤ 6 := (hg.rows _ _ a2).1
    have hln : (((code.map rowT).map Dat).length : Int) = (code.length : Int) := by rw [List.length_map, List.length_map]
    replace R : RS _ _ F3 H3 σ2 [some (Vl (.ref x)), some (Dat (osT g.os)), some (Dat (csT g.cs)), none, none, some (Dat (.int (a : Int))), some (Dat (codeT code)), none, none] := R
    exact g_ifF R (x_not (x_test (sized (ev_untup (x_var (P := Dat (codeT code)) rfl)) x_int x_int (by omega) (by omega)))) rfl fun F4 H4 g4 R => s_next ⟨F4, (R.forget 5).forget 6, o.step g4⟩
  refine s_nx (s_forI (K := K) (is := [5, 6]) (xs := (List.range g.cs.length).zip g.cs) (ι := fun q => TupP [Dat (.int (q.1 : Int)), Dat (codeT q.2)]) (ts := fun q => [Dat (.int (q.1 : Int)), Dat (codeT q.2)]) R (by rw [← hen2]; exact i_enumT (ev_untup (x_var (P := Dat (csT g.cs)) rfl))) Pt (fun _ F H => Op x c.prog F H []) rfl o (fun q _ => .tup 2 [5, 6] _ rfl rfl) (fun t F H F' H' o gr => o.step gr) (fun Fb hFb t qq hqq F3 H3 σ2 R o => ?_) fun F3 H3 σ2 R o => ?_)
  · obtain ⟨a, code⟩ := qq
    obtain ⟨a1, a2⟩ := zip_range hqq
    have hrows := (hg.rows _ _ a2).2
    have ea : a = t := a1
    subst ea
    let Pu : Nat → Tys := fun _ => [some (Vl (.ref x)), some (Dat (osT g.os)), some (Dat (csT g.cs)), none, none, some (Dat (.int (a : Int))), some (Dat (codeT code)), none, none]
    replace R : RS _ _ F3 H3 σ2 (Pu 0) := R
    refine s_forI (K := K) (is := [7, 8]) (xs := (List.range code.length).zip code) (ι := fun q => TupP [Dat (.int (q.1 : Int)), Dat (rowT q.2)]) (ts := fun q => [Dat (.int (q.1 : Int)), Dat (rowT q.2)]) R (by rw [← hen3]; exact i_enumT (ev_untup (x_var (P := Dat (codeT code)) rfl))) Pu (fun _ F H => Op x c.prog F H []) rfl o (fun q _ => .tup 2 [7, 8] _ rfl rfl) (fun t F H F' H' o gr => o.step gr) (fun Fc hFc t2 qr hqr F4 H4 σ3 R o => ?_) fun F4 H4 σ3 R o => ⟨F4, (R.forget 5).forget 6, o⟩
    obtain ⟨i, r⟩ := qr
    obtain ⟨_, b2⟩ := zip_range hqr
    replace R : RS _ _ F4 H4 σ3 [some (Vl (.ref x)), some (Dat (osT g.os)), some (Dat (csT g.cs)), none, none, some (Dat (.int (a : Int))), some (Dat (codeT code)), some (Dat (.int (i : Int))), some (Dat (rowT r))] := R
    exact g_ifF R (x_not (x_test (x_call (P := Dat (.bl true)) (RowPre.mk g.os a code.length r) (hrows r (List.mem_of_getElem? b2)) (a_cons (x_var rfl) (a_cons (x_var rfl) (a_cons (e_codeLen (x_var rfl)) (a_cons (x_var rfl) a_nil)))) rfl))) rfl fun F5 H5 g5 R => s_next ⟨F5, (R.forget 7).forget 8, o.step g5⟩
  refine s_nx (so_keep R o h0 g trivial (x_var rfl) (a_cons (x_var rfl) (a_cons (x_var rfl) a_nil)) fun F4 H4 R o => ?_)
  obtain ⟨F5, R5, s5, p5⟩ := s_seal R o h0
  exact s_nx (q _ _ R5.gr p5)
end
end G
namespace G
open PySem PySem.Spec PyProof.Rows L2
open Enc (enc)
abbrev s_law_wires : Stmt := top 68
abbrev nm_law_wires : List Str := ["_law_hand_here", "_law_machines", "_law_share", "_law_found", "_law_y", "_law_x"]
abbrev ps_law_wires : List Str := ["_law_hand_here", "_law_machines", "_law_share"]
theorem sc_law_wires : FnScope nm_law_wires ps_law_wires (defScope s_law_wires) := ⟨rfl, rfl, rfl, by decide +kernel, rfl, by decide +kernel, by decide +kernel⟩
abbrev s_law_row : Stmt := top 69
abbrev nm_law_row : List Str := ["_law_hand_here", "_law_machine", "_law_owners", "_law_at", "_law_most", "_law_own", "_law_c", "_law_kind", "_law_r", "_law_s", "_law_to", "_law_rows"]
abbrev ps_law_row : List Str := ["_law_hand_here", "_law_machine", "_law_owners", "_law_at", "_law_most"]
theorem sc_law_row : FnScope nm_law_row ps_law_row (defScope s_law_row) := ⟨rfl, rfl, rfl, by decide +kernel, rfl, by decide +kernel, by decide +kernel⟩
abbrev s_law_hand : Stmt := top 66
abbrev nm_law_hand : List Str := ["_law_script", "_law_cells", "_law_cell"]
abbrev ps_law_hand : List Str := ["_law_script"]
theorem sc_law_hand : FnScope nm_law_hand ps_law_hand (defScope s_law_hand) := ⟨rfl, rfl, rfl, by decide +kernel, rfl, by decide +kernel, by decide +kernel⟩
section
variable {h l : Addr} {F H F' H' : Hp} {Qs : List Ty}
theorem HandOk.ne_l (o : HandOk h F H) (ol : OpL l F H Qs) (hq : Qs.length ≠ 5) : l ≠ h := fun z => by
  obtain ⟨cs, i, r, s, k, _, us, u2, u3⟩ := o
  obtain ⟨_, vs, v2, v3⟩ := ol
  rw [z, u2] at v2
  cases v2
  exact hq (v3.len.trans u3.len.symm)
theorem HandOk.frz (o : HandOk h F H) (nl : l ≠ h) (hf : F l = none) {u : HO} : HandOk h (upd F l u) H := by
  obtain ⟨cs, i, r, s, k, u1, us, u2, u3⟩ := o
  exact ⟨cs, i, r, s, k, by rw [upd_ne (fun z => nl z.symm)]; exact u1, us, u2, u3.up (Same.upd_new hf)⟩
theorem sh_fin {F0 H0 : Hp} {σ : L2.St} {Ps : Tys} {j : Nat} (R : RS F0 H0 F H σ Ps) (o : HandOk h F H) (ol : OpL l F H Qs) (nl : l ≠ h) (h0 : H0 l = none) (hj : Ps[j]? = some (some (Vl (.ref l)))) : ∃ F', RS F0 H0 F' H σ (Ps.set j (some (LstP Qs))) ∧ HandOk h F' H ∧ Same F F' ∧ ∀ l2 Qs2, l2 ≠ l → OpL l2 F H Qs2 → OpL l2 F' H Qs2 := by
  obtain ⟨k1, us, k2, k3⟩ := ol
  have sm : Same F (upd F l (.lst us)) := Same.upd_new k1
  have R' : RS F0 H0 (upd F l (.lst us)) H σ Ps := ⟨R.gr.freeze h0 k1 k2, R.sl.up sm⟩
  exact ⟨_, R'.know hj ⟨l, us, rfl, upd_same, k3.up sm⟩, o.frz nl k1, sm, fun l2 Qs2 n2 ⟨v1, vs, v2, v3⟩ => ⟨by rw [upd_ne n2]; exact v1, vs, v2, v3.up sm⟩⟩
end
/-- drawn wires -/
structure WsI (n t : Nat) (ws : List (Nat × Nat)) : Prop where
  ok : ∀ q ∈ ws, q.1 < t ∧ q.2 < n ∧ q.1 ≠ q.2
  lt : ws.Pairwise fun p q => p.1 < q.1 ∨ p.1 = q.1 ∧ p.2 < q.2
  few : ws.length ≤ t * n
structure XsI (n y i : Nat) (l : List Nat) : Prop where
  ok : ∀ a ∈ l, a < i ∧ a < n ∧ a ≠ y
  lt : l.Pairwise (· < ·)
  few : l.length ≤ i
theorem XsI.skip {n y i : Nat} {l : List Nat} (h : XsI n y i l) : XsI n y (i + 1) l := ⟨fun a ha => ⟨Nat.lt_succ_of_lt (h.ok a ha).1, (h.ok a ha).2⟩, h.lt, Nat.le_succ_of_le h.few⟩
theorem XsI.add {n y i : Nat} {l : List Nat} (h : XsI n y i l) (hi : i < n) (hy : i ≠ y) : XsI n y (i + 1) (l ++ [i]) := by
  refine ⟨fun a ha => ?_, ?_, by rw [List.length_append, List.length_singleton]; exact Nat.succ_le_succ h.few⟩
  · rcases List.mem_append.mp ha with z | z
    · exact h.skip.ok a z
    · rw [List.mem_singleton.mp z]; exact ⟨Nat.lt_succ_self i, hi, hy⟩
  · rw [List.pairwise_append]
    exact ⟨h.lt, List.pairwise_singleton _ _, fun a ha b hb => by rw [List.mem_singleton.mp hb]; exact (h.ok a ha).1⟩
theorem WsI.next {n t : Nat} {ws : List (Nat × Nat)} {l : List Nat} (h : WsI n t ws) (k : XsI n t n l) : WsI n (t + 1) (ws ++ l.map fun x => (t, x)) := by
  refine ⟨fun q hq => ?_, ?_, ?_⟩
  · rcases List.mem_append.mp hq with z | z
    · exact ⟨Nat.lt_succ_of_lt (h.ok q z).1, (h.ok q z).2⟩
    · obtain ⟨x, hx, rfl⟩ := List.mem_map.mp z
      exact ⟨Nat.lt_succ_self t, (k.ok x hx).1, fun e => (k.ok x hx).2.2 e.symm⟩
  · rw [List.pairwise_append]
    refine ⟨h.lt, List.pairwise_map.mpr (k.lt.imp fun e => .inr ⟨rfl, e⟩), fun a ha b hb => ?_⟩
    obtain ⟨x, hx, rfl⟩ := List.mem_map.mp hb
    exact .inl (h.ok a ha).1
  · rw [List.length_append, List.length_map, Nat.succ_mul]
    exact Nat.add_le_add h.few k.few
section
variable {P : Program} {w : World} {K : PySem.W.Frag} {mg : Str → Option Value} {base : Heap} {f f1 f2 f3 : Addr} {fd fd1 fd2 fd3 : FuncData}
theorem d_draw {h : Addr} {Ps : Tys} {ta te : TE} {m : Nat} {E : XK} (hh : EvX ta Ps (Vl (.ref h))) (e : EvX te Ps (Dat (.int (m : Int)))) (h0 : 0 < m) (h1 : m ≤ 1000) : EvH h (tCall sp_draw [] E (tCons ta (tCons te tNil))) Ps (LtT m) := h_callX m ⟨h0, h1⟩ hh (a_cons e a_nil) rfl
abbrev sp_law_wires : Sp := SpH (fun i : Nat × Int => i.1 ≤ 4) (fun i => [Dat (.int (i.1 : Int)), Dat (.int i.2)]) fun i => ExT (WsI i.1 i.1) fun ws => LstP (ws.map fun q => Dat (enc q))
theorem ok__law_wires (F : Fun K "_law_wires" "_law_wires" s_law_wires f fd) (B : Bi mg) (G_law_draw : GF P w K mg base "_law_draw" ps_law_draw 3 sp_draw f1 fd1) : FnOk P w K mg base CX0 4 f fd ps_law_wires sp_law_wires := by
  refine okH F sc_law_wires (fun _ => rfl) fun cdv A outer s H E hr => ⟨_, (pss_cons (ps_set (i := 3) sc_law_wires.nd rfl (Or.inl rfl) (pe_lst pa_nil))
  (pss_cons (ps_for PassesOwn.never rfl (pi_range1 rfl B.range_ (pa_cons (pv 1) pa_nil)) (pg_name (i := 4) sc_law_wires.nd rfl (Or.inr rfl))
  (pss_one (ps_expr (pe_bm PySem.F.plainAttrs_list PySem.F.slot_list_extend PySem.F.type_list_extend mt_extend (pv 3) (pa_cons (pe_lc (own := [("_law_x", 5)]) rfl sc_law_wires.nd (pi_range1 rfl B.range_ (pa_cons (pv 1) pa_nil)) (blkOk_by (N := nm_law_wires) (sc := defScope s_law_wires) (by decide +kernel)) (fun _ _ _ _ _ => (pg_name (i := 5) sc_law_wires.nd rfl (Or.inl rfl))) (fun _ _ _ _ _ => (pts_one (PW.pt (pw_and (pt_cmpR oNeS (pv 5) (pv 4) (nomark _)) (pw_and1 (pt_cmpR oLtI (pe_f G_law_draw (hr.mono (by decide)) rfl (pa_cons (pv 0) (pa_cons pe_int pa_nil))) (pv 2) (nomark _))))))) (fun _ _ _ _ _ => (pe_tup (pa_cons (pv 4) (pa_cons (pv 5) pa_nil))))) pa_nil)))))
  (pss_one (ps_ret (pv 3))))), fun i F h vs Q hp h0 R o q => ?_⟩
  obtain ⟨n, share⟩ := i
  have hn : n ≤ 4 := hp
  replace q : ∀ v F' H', Gr F (hid H h) F' H' → HandOk h F' H' → (ExT (WsI n n) fun ws => LstP (ws.map fun q => Dat (enc q))).p F' v → Q v H' := q
  refine so_lstS (Qs := []) R a_nil (Nat.zero_le _) fun l F1 H1 σ gl hl R ol => ?_
  replace o := o.step gl
  have nl : l ≠ h := o.ne_l ol (by decide)
  let Pt : Nat → Tys := fun _ => [some (Vl (.ref h)), some (Dat (.int (n : Int))), some (Dat (.int share)), some (Vl (.ref l)), none, none]
  have R' : RS F (hid H h) F1 H1 σ (Pt 0) := R
  refine s_forI (K := K) (is := [4]) (xs := List.range n) (ι := fun (k : Nat) => Dat (.int (k : Int))) (ts := fun (k : Nat) => [Dat (.int (k : Int))]) R' (i_range (a_cons (x_var rfl) a_nil) (by omega)) Pt (fun t F H => HandOk h F H ∧ ∃ ws, WsI n t ws ∧ OpL l F H (ws.map fun q => Dat (enc q))) rfl ⟨o, [], ⟨fun q hq => absurd hq List.not_mem_nil, List.Pairwise.nil, Nat.zero_le _⟩, ol⟩ (fun k _ => .one 4 _) (fun t F H F' H' a g => ⟨a.1.step g, let ⟨ws, b1, b2⟩ := a.2; ⟨ws, b1, b2.step g⟩⟩) (fun Fb hFb t y hy F2 H2 σ2 R a => ?_) fun F2 H2 σ2 R a => ?_
  · have ht : t < n := by have := getElem?_lt hy; simpa using this
    rw [List.getElem?_range ht] at hy
    obtain rfl : t = y := Option.some.inj hy
    obtain ⟨o, ws, hws, ol⟩ := a
    replace R : RS _ _ F2 H2 σ2 [some (Vl (.ref h)), some (Dat (.int (n : Int))), some (Dat (.int share)), some (Vl (.ref l)), some (Dat (.int (t : Int))), none] := R
    refine sh_extend R o h0 ol nl hl (x_var rfl) (lcH (K := K) (is := [5]) (fun _ : Unit => True) (fun _ => List.range n) (ts := fun (k : Nat) => [Dat (.int (k : Int))]) (ih_x (ι := fun (k : Nat) => Dat (.int (k : Int))) (i_range (a_cons (x_var rfl) a_nil) (by omega))) (fun _ _ k _ => .one 5 _) (by decide) (fun _ _ => sz1 (by rw [List.length_range]; omega))
      (fun x : Nat => Dat (enc (t, x))) (fun _ i l => XsI n t i l) (fun _ x b => b = true → x ≠ t) (fun _ x b => b = x) (fun _ _ => ⟨fun q hq => absurd hq List.not_mem_nil, List.Pairwise.nil, Nat.zero_le _⟩) (fun _ i x _ hx => ?_) (fun _ i x _ hx hb => ?_) (fun _ i x l _ hx _ k => k.skip) (fun _ i x b l _ hx hb hbx k => ?_) fun _ i l k => k.few) (fun ls hls => ?_) fun ls F3 H3 hls R o ol => ?_
    · refine h_and (h_t (b := !decide ((x : Int) = (t : Int))) (x_test (e_neI (x_var rfl) (x_var rfl)))) (h_test (φ := fun _ => True) (h_opL (d_draw (m := 6) (x_var rfl) x_int (by decide) (by decide)) (x_var (P := Dat (.int share)) rfl) fun d hd => x_ex (decide ((d : Int) < share)) trivial (e_lt (x_var rfl) (x_var rfl)))) (fun b h1 _ _ hxt => ?_) fun _ hf => by cases hf
      subst hxt
      rw [decide_eq_true rfl] at h1
      cases h1
    · exact h_x (x_ex x rfl (x_tupD (ts := [.int (t : Int), .int (x : Int)]) (a_cons (x_var rfl) (a_cons (x_var rfl) a_nil)) (big (by show 2 ≤ _; decide))))
    · have hi : i < n := by have := getElem?_lt hx; simpa using this
      rw [List.getElem?_range hi] at hx
      have hix : i = x := Option.some.inj hx
      have hbx' : b = x := hbx
      rw [hbx', ← hix]
      exact k.add hi (by rw [hix]; exact hb rfl)
    · obtain ⟨_, l', _, hl', rfl⟩ := hls
      rw [List.length_map, List.length_map, sizeLine_eq]
      have h1 := hws.few
      have h2 := hl'.few
      rw [List.length_range] at h2
      have h3 : t * n ≤ 4 * 4 := Nat.mul_le_mul (by omega) hn
      omega
    · obtain ⟨_, l', _, hl', rfl⟩ := hls
      rw [List.length_range] at hl'
      refine ⟨F3, R.forget 4, o, _, hws.next hl', ?_⟩
      rw [List.map_append, List.map_map]
      exact ol
  · obtain ⟨o, ws, hws, ol⟩ := a
    rw [List.length_range] at hws
    obtain ⟨F3, R, o, _, _⟩ := sh_fin (j := 3) R o ol nl hl rfl
    exact s_nx (g_ret R (x_var (P := LstP (ws.map fun q => Dat (enc q))) rfl) fun v F4 H4 g g4 p4 => q v F4 H4 g4 (o.step g) ⟨ws, hws, p4⟩)
end
end G
namespace G
open PySem PySem.Spec PyProof.Rows L2
open Enc (enc)
theorem tup_ex2 {β : Type} {p : β → Prop} {f : β → Ty} {A B : Ty} {F : Hp} {v : V} (h : (TupP [A, ExT p f, B]).p F v) : ∃ b, p b ∧ (TupP [A, f b, B]).p F v := by
  obtain ⟨a, xs, h1, h2, h3⟩ := h
  cases h3 with
  | cons k1 h3 =>
    cases h3 with
    | cons k2 h3 =>
      obtain ⟨b, b1, b2⟩ := k2
      exact ⟨b, b1, a, _, h1, h2, .cons k1 (.cons b2 h3)⟩
theorem tup_ex3 {β : Type} {p : β → Prop} {f : β → Ty} {A B : Ty} {F : Hp} {v : V} (h : (TupP [A, B, ExT p f]).p F v) : ∃ b, p b ∧ (TupP [A, B, f b]).p F v := by
  obtain ⟨a, xs, h1, h2, h3⟩ := h
  cases h3 with
  | cons k1 h3 =>
    cases h3 with
    | cons k2 h3 =>
      cases h3 with
      | cons k3 h3 =>
        obtain ⟨b, b1, b2⟩ := k3
        exact ⟨b, b1, a, _, h1, h2, .cons k1 (.cons k2 (.cons b2 h3))⟩
theorem lst_head {β : Type} {p : β → Prop} {f : β → Ty} {A : Ty} {Qs : List Ty} {F : Hp} {v : V} (hA : ∀ F v, A.p F v → ∃ b, p b ∧ (f b).p F v) (h : (LstP (A :: Qs)).p F v) : ∃ b, p b ∧ (LstP (f b :: Qs)).p F v := by
  obtain ⟨a, xs, h1, h2, h3⟩ := h
  cases h3 with
  | cons k1 h3 =>
    obtain ⟨b, b1, b2⟩ := hA _ _ k1
    exact ⟨b, b1, a, _, h1, h2, .cons b2 h3⟩
abbrev rowsOf (r s to n : Nat) : List Row := [.set r n, .rest, .same r s to, .less r s to, .add r r s, .take r s r, .copy r s, .go to, .call to, .back]
theorem rows_ok {os : List Nat} {m most r s to n : Nat} (hr : r < 3) (hs : s < 3) (ht : to ≤ most) (hn : n ≤ 3) : ∀ x ∈ rowsOf r s to n, RowOk os m most x := by
  intro x hx
  simp only [rowsOf, List.mem_cons, List.not_mem_nil, or_false] at hx
  rcases hx with rfl | rfl | rfl | rfl | rfl | rfl | rfl | rfl | rfl | rfl
  · exact ⟨by omega, by omega, by omega⟩
  · exact trivial
  · exact ⟨by omega, by omega, ht⟩
  · exact ⟨by omega, by omega, ht⟩
  · exact ⟨by omega, by omega, by omega⟩
  · exact ⟨by omega, by omega, by omega⟩
  · exact ⟨by omega, by omega⟩
  · exact ht
  · exact ht
  · exact trivial
abbrev idxs : List Nat := [0, 0, 1, 2, 3, 4, 5, 6, 7, 8, 9]
theorem idx_lt : ∀ d < 11, idxs.getD d 0 < 10 := by decide
theorem idx_at {d : Nat} (h : d < 11) : (idxs.map fun (k : Nat) => Dat (.int (k : Int)))[d]? = some (Dat (.int (idxs.getD d 0 : Nat))) := by
  rw [List.getElem?_map, List.getD_eq_getElem?_getD, List.getElem?_eq_getElem (by exact h)]
  rfl
section
variable {P : Program} {w : World} {K : PySem.W.Frag} {mg : Str → Option Value} {base : Heap} {f f1 f2 f3 : Addr} {fd fd1 fd2 fd3 : FuncData}
structure RowD where
  m : Nat
  os : List Nat
  at_ : Nat
  most : Nat
structure RowDOk (i : RowD) : Prop where
  o1 : 1 ≤ i.os.length
  o3 : i.os.length ≤ 3
abbrev sp_law_row : Sp := SpH RowDOk (fun i => [Dat (.int (i.m : Int)), Dat (osT i.os), Dat (.int (i.at_ : Int)), Dat (.int (i.most : Int))]) fun i => ExT (fun r => RowOk i.os i.m i.most r) fun r => Dat (rowT r)
theorem tup3 {Ps : Tys} {ta tb tc : TE} {a b c : T} (h1 : EvX ta Ps (Dat a)) (h2 : EvX tb Ps (Dat b)) (h3 : EvX tc Ps (Dat c)) : EvX (tTup (tCons ta (tCons tb (tCons tc tNil)))) Ps (Dat (.tup [a, b, c])) := x_tupD (ts := [a, b, c]) (a_cons h1 (a_cons h2 (a_cons h3 a_nil))) (big (by show 3 ≤ _; decide))
theorem tup4 {Ps : Tys} {ta tb tc td : TE} {a b c d : T} (h1 : EvX ta Ps (Dat a)) (h2 : EvX tb Ps (Dat b)) (h3 : EvX tc Ps (Dat c)) (h4 : EvX td Ps (Dat d)) : EvX (tTup (tCons ta (tCons tb (tCons tc (tCons td tNil))))) Ps (Dat (.tup [a, b, c, d])) := x_tupD (ts := [a, b, c, d]) (a_cons h1 (a_cons h2 (a_cons h3 (a_cons h4 a_nil)))) (big (by show 4 ≤ _; decide))
theorem tup2' {Ps : Tys} {ta tb : TE} {a b : T} (h1 : EvX ta Ps (Dat a)) (h2 : EvX tb Ps (Dat b)) : EvX (tTup (tCons ta (tCons tb tNil))) Ps (Dat (.tup [a, b])) := x_tupD (ts := [a, b]) (a_cons h1 (a_cons h2 a_nil)) (big (by show 2 ≤ _; decide))
theorem tup1 {Ps : Tys} {ta : TE} {a : T} (h1 : EvX ta Ps (Dat a)) : EvX (tTup (tCons ta tNil)) Ps (Dat (.tup [a])) := x_tupD (ts := [a]) (a_cons h1 a_nil) (big (by show 1 ≤ _; decide))
theorem d_oneP {h : Addr} {Ps : Tys} {te : TE} {E : XK} (hh : EvX te Ps (Vl (.ref h))) : EvH h (tOp rAddI (tC (.int 1)) (tCall sp_draw [] E (tCons te (tCons (tC (.int 3)) tNil)))) Ps (ExT (fun n : Nat => 1 ≤ n ∧ n ≤ 3) fun n => Dat (.int (n : Int))) :=
  h_opR (P' := Dat (.int 1)) x_int (d_draw (m := 3) hh x_int (by decide) (by decide)) fun d hd => x_ex (1 + d) (by omega) ((e_add (i := 1) (j := (d : Int)) (x_var rfl) (x_var rfl)).cast (by rw [Int.natCast_add]; rfl))
/-- 1 + a draw of three -/
theorem d_one {h : Addr} {Ps : Tys} {te : TE} {E : XK} (hh : EvX te Ps (Vl (.ref h))) : EvH h (tOp rAddI (tC (.int 1)) (tCall sp_draw [] E (tCons te (tCons (tC (.int 3)) tNil)))) Ps (ExT (fun n : Nat => n ≤ 3) fun n => Dat (.int (n : Int))) :=
  h_opR (P' := Dat (.int 1)) x_int (d_draw (m := 3) hh x_int (by decide) (by decide)) fun d hd => x_ex (1 + d) (by omega) ((e_add (i := 1) (j := (d : Int)) (x_var rfl) (x_var rfl)).cast (by rw [Int.natCast_add]; rfl))
theorem ok__law_row (F : Fun K "_law_row" "_law_row" s_law_row f fd) (B : Bi mg) (G_law_draw : GF P w K mg base "_law_draw" ps_law_draw 3 sp_draw f1 fd1) : FnOk P w K mg base CX0 4 f fd ps_law_row sp_law_row := by
  refine okH F sc_law_row (fun _ => rfl) fun cdv A outer s H E hr => ⟨_, (pss_cons (ps_setLc (i := 5) (own := [("_law_c", 6)]) rfl sc_law_row.nd rfl rfl (sw_true rfl rfl rfl (by decide +kernel)) (pi_range1 rfl B.range_ (pa_cons (pe_callB (kC (r := rLenG) (K := K) cLen rfl) (by rfl) B.len_ b_len (pa_cons (pv 2) pa_nil)) pa_nil)) (blkOk_by (N := nm_law_row) (sc := defScope s_law_row) (by decide +kernel)) (fun _ _ _ _ _ => (pg_name (i := 6) sc_law_row.nd rfl (Or.inl rfl))) (fun _ _ _ _ _ => (pts_one (pt_cmpR oEqS (pe_ix (kIx (r := rIxT) (K := K) ix_tup rfl) (pv 2) (pv 6) (fun _ _ => rfl)) (pv 1) (nomark _)))) (fun _ _ _ _ _ => (pv 6)))
  (pss_cons (ps_set (i := 7) sc_law_row.nd rfl (Or.inl rfl) (pe_f G_law_draw (hr.mono (by decide)) rfl (pa_cons (pv 0) (pa_cons pe_int pa_nil))))
  (pss_cons (ps_par (i := 8) (j := 9) rfl sc_law_row.nd rfl rfl (by decide) rfl rfl (pa_cons (pe_f G_law_draw (hr.mono (by decide)) rfl (pa_cons (pv 0) (pa_cons pe_int pa_nil))) (pa_cons (pe_f G_law_draw (hr.mono (by decide)) rfl (pa_cons (pv 0) (pa_cons pe_int pa_nil))) pa_nil)) rfl)
  (pss_cons (ps_set (i := 10) sc_law_row.nd rfl (Or.inl rfl) (pe_callB (cMin2 rfl) (by rfl) B.min_ b_min (pa_cons (pv 4) (pa_cons (pe_op oAddI (pe_op oAddI (pv 3) pe_int) (pe_f G_law_draw (hr.mono (by decide)) rfl (pa_cons (pv 0) (pa_cons pe_int pa_nil)))) pa_nil))))
  (pss_cons (ps_if (PW.pt (pw_and (pt_cmpR oLtI (pv 7) pe_int (nomark _)) (pw_and1 (pt_cmpR oGtI (pe_callB (kC (r := rLenG) (K := K) cLen rfl) (by rfl) B.len_ b_len (pa_cons (pv 5) pa_nil)) pe_int (nomark _)))))
  (pss_one (ps_ret (pe_tup (pa_cons pe_str (pa_cons (pe_ix (kIx (r := rIxL) (K := K) ix_list rfl) (pv 5) (pe_f G_law_draw (hr.mono (by decide)) rfl (pa_cons (pv 0) (pa_cons (pe_callB (kC (r := rLenG) (K := K) cLen rfl) (by rfl) B.len_ b_len (pa_cons (pv 5) pa_nil)) pa_nil))) (fun _ _ => rfl)) (pa_cons (pv 8) pa_nil))))))
  pss_nil)
  (pss_cons (ps_if (pt_cmpR oLtI (pv 7) pe_int (nomark _))
  (pss_one (ps_ret (pe_tup (pa_cons pe_str (pa_cons (pv 8) (pa_cons (pe_f G_law_draw (hr.mono (by decide)) rfl (pa_cons (pv 0) (pa_cons (pe_callB (kC (r := rLenG) (K := K) cLen rfl) (by rfl) B.len_ b_len (pa_cons (pv 2) pa_nil)) pa_nil))) pa_nil))))))
  pss_nil)
  (pss_cons (ps_if (pt_cmpR oLtI (pv 7) pe_int (nomark _))
  (pss_one (ps_ret (pe_tup (pa_cons pe_str (pa_cons (pv 8) pa_nil)))))
  pss_nil)
  (pss_cons (ps_set (i := 11) sc_law_row.nd rfl (Or.inl rfl) (pe_lst (pa_cons (pe_tup (pa_cons pe_str (pa_cons (pv 8) (pa_cons (pe_op oAddI pe_int (pe_f G_law_draw (hr.mono (by decide)) rfl (pa_cons (pv 0) (pa_cons pe_int pa_nil)))) pa_nil)))) (pa_cons (pe_tup (pa_cons pe_str pa_nil)) (pa_cons (pe_tup (pa_cons pe_str (pa_cons (pv 8) (pa_cons (pv 9) (pa_cons (pv 10) pa_nil))))) (pa_cons (pe_tup (pa_cons pe_str (pa_cons (pv 8) (pa_cons (pv 9) (pa_cons (pv 10) pa_nil))))) (pa_cons (pe_tup (pa_cons pe_str (pa_cons (pv 8) (pa_cons (pv 8) (pa_cons (pv 9) pa_nil))))) pa_nil)))))))
  (pss_cons (ps_set (i := 11) sc_law_row.nd rfl (Or.inl rfl) (pe_op op_cat (pv 11) (pe_lst (pa_cons (pe_tup (pa_cons pe_str (pa_cons (pv 8) (pa_cons (pv 9) (pa_cons (pv 8) pa_nil))))) (pa_cons (pe_tup (pa_cons pe_str (pa_cons (pv 8) (pa_cons (pv 9) pa_nil)))) (pa_cons (pe_tup (pa_cons pe_str (pa_cons (pv 10) pa_nil))) (pa_cons (pe_tup (pa_cons pe_str (pa_cons (pv 10) pa_nil))) (pa_cons (pe_tup (pa_cons pe_str pa_nil)) pa_nil))))))))
  (pss_one (ps_ret (pe_ix (kIx (r := rIxL) (K := K) ix_list rfl) (pv 11) (pe_ix (kIx (r := rIxL) (K := K) ix_list rfl) (pe_lst (pa_cons pe_int (pa_cons pe_int (pa_cons pe_int (pa_cons pe_int (pa_cons pe_int (pa_cons pe_int (pa_cons pe_int (pa_cons pe_int (pa_cons pe_int (pa_cons pe_int (pa_cons pe_int pa_nil)))))))))))) (pe_f G_law_draw (hr.mono (by decide)) rfl (pa_cons (pv 0) (pa_cons pe_int pa_nil))) (fun _ _ => rfl)) (fun _ _ => rfl))))))))))))), fun i F h vs Q hp h0 R o q => ?_⟩
  obtain ⟨m, os, at_, most⟩ := i
  obtain ⟨o1, o3⟩ := hp
  replace o1 : 1 ≤ os.length := o1
  replace o3 : os.length ≤ 3 := o3
  replace q : ∀ v F' H', Gr F (hid H h) F' H' → HandOk h F' H' → (ExT (fun r => RowOk os m most r) fun r => Dat (rowT r)).p F' v → Q v H' := q
  replace R : RS F (hid H h) F H (L2.start nm_law_row vs) [some (Vl (.ref h)), some (Dat (.int (m : Int))), some (Dat (osT os)), some (Dat (.int (at_ : Int))), some (Dat (.int (most : Int))), none, none, none, none, none, none, none] := R
  let own : List Nat := (List.range os.length).filter fun c => decide (os.getD c 0 = m)
  have hown : ∀ c ∈ own, os[c]? = some m := fun c hc => by
    obtain ⟨k1, k2⟩ := List.mem_filter.mp hc
    have hc' := List.mem_range.mp k1
    rw [decide_eq_true_eq, List.getD_eq_getElem?_getD, List.getElem?_eq_getElem hc'] at k2
    rw [List.getElem?_eq_getElem hc']
    exact congrArg some k2
  have howl : own.length ≤ 3 := by
    have := List.length_filter_le (fun c => decide (os.getD c 0 = m)) (List.range os.length)
    rw [List.length_range] at this
    exact Nat.le_trans this o3
  refine g_asgS R (P := LstP (own.map fun (c : Nat) => Dat (.int (c : Int)))) (x_lc (K := K) (is := [6]) (xs := List.range os.length) (ι := fun (k : Nat) => Dat (.int (k : Int))) (ts := fun (k : Nat) => [Dat (.int (k : Int))]) (b := fun c => decide (os.getD c 0 = m)) (i_range (a_cons (e_lenE (as := os) (x_var rfl)) a_nil) (by omega)) (fun k _ => .one 6 _) (by decide) (sz1 (by rw [List.length_range]; omega)) (fun c hc => ?_) fun c hc _ => x_var rfl) fun F1 H1 σ1 g1 R => ?_
  · have hc' := List.mem_range.mp hc
    refine (x_test (e_eqI (i := (os.getD c 0 : Nat)) (x_ixV (n := c) (ts := os.map enc) (x_var rfl) (x_var rfl) (enc_at hc')) (x_var rfl))).cast nat_eq
  replace o := o.step g1
  refine sh_asgX R o h0 (d_draw (m := 16) (x_var rfl) x_int (by decide) (by decide)) fun kind F2 H2 σ2 hkind g2 R o => ?_
  refine sh_par R o h0 (ha_cons (d_draw (m := 3) (x_var rfl) x_int (by decide) (by decide)) (ha_cons (d_draw (m := 3) (x_var rfl) x_int (by decide) (by decide)) ha_nil)) fun r s F3 H3 σ3 hr3 hs3 R o => ?_
  refine sh_asgX (p := fun t : Nat => t ≤ most) (f := fun t => Dat (.int (t : Int))) R o h0 (h_cbR (P' := Dat (.int (most : Int))) (x_var rfl) (h_opR (P' := Dat (.int ((at_ : Int) + 1))) (e_add (x_var rfl) x_int) (d_draw (m := 2) (x_var rfl) x_int (by decide) (by decide)) fun d hd => x_ex (p := fun _ : Nat => True) (f := fun t => Dat (.int (t : Int))) (at_ + 1 + d) trivial ((e_add (i := (at_ : Int) + 1) (j := (d : Int)) (x_var rfl) (x_var rfl)).cast (by rw [Int.natCast_add, Int.natCast_add]; rfl))) fun t _ => x_ex (if t < most then t else most) (by split <;> omega) ((e_min (i := (most : Int)) (j := (t : Int)) (x_var rfl) (x_var rfl)).cast ?_)) fun to F4 H4 σ4 hto g4 R o => ?_
  · by_cases hc : t < most
    · rw [if_pos hc, if_pos (by omega)]
    · rw [if_neg hc, if_neg (by omega)]
  replace R : RS _ _ F4 H4 σ4 [some (Vl (.ref h)), some (Dat (.int (m : Int))), some (Dat (osT os)), some (Dat (.int (at_ : Int))), some (Dat (.int (most : Int))), some (LstP (own.map fun (c : Nat) => Dat (.int (c : Int)))), none, some (Dat (.int (kind : Int))), some (Dat (.int (r : Int))), some (Dat (.int (s : Int))), some (Dat (.int (to : Int))), none] := R
  refine sh_if R o h0 (h_t (b := decide ((kind : Int) < 5) && decide (0 < (own.length : Int))) (x_and (x_test (e_lt (x_var rfl) x_int)) fun _ => x_test (e_gt (j := 0) ((e_lenL (Qs := own.map fun (c : Nat) => Dat (.int (c : Int))) (x_var rfl)).cast (by rw [List.length_map])) x_int))) (fun hb F5 H5 g5 R o => ?_) fun hb F5 H5 g5 R o => s_next ?_
  · have hb' := hb.symm
    rw [Bool.and_eq_true, decide_eq_true_eq, decide_eq_true_eq] at hb'
    refine sh_ret R o h0 (P := TupP [Dat (.str "put"), ExT (fun c : Nat => c ∈ own) fun c => Dat (.int (c : Int)), Dat (.int (r : Int))]) (h_tup (ha_cons (h_x x_str) (ha_cons (h_opR (P' := LstP (own.map fun (c : Nat) => Dat (.int (c : Int)))) (x_var rfl) (d_draw (m := own.length) (x_var rfl) ((e_lenL (Qs := own.map fun (c : Nat) => Dat (.int (c : Int))) (x_var rfl)).cast (by rw [List.length_map])) (by omega) (by omega)) fun d hd => x_ex (own[d]'hd) (List.getElem_mem hd) (x_ixL (n := d) (x_var rfl) (x_var rfl) (by rw [List.getElem?_map, List.getElem?_eq_getElem hd]; rfl))) (ha_cons (h_x (x_var rfl)) ha_nil))) (big (by show 3 ≤ _; decide))) fun v F6 H6 g6 o6 p6 => q v F6 H6 g6 o6 ?_
    obtain ⟨c, c1, c2⟩ := tup_ex2 p6
    exact ⟨.put c r, ⟨hown c c1, by omega⟩, dat_tup.mpr c2⟩
  refine sh_if R o h0 (h_t (b := decide ((kind : Int) < 9)) (x_test (e_lt (x_var rfl) x_int))) (fun hb F5 H5 g5 R o => ?_) fun hb F5 H5 g5 R o => s_next ?_
  · refine sh_ret R o h0 (P := TupP [Dat (.str "look"), Dat (.int (r : Int)), LtT os.length]) (h_tup (ha_cons (h_x x_str) (ha_cons (h_x (x_var rfl)) (ha_cons (d_draw (m := os.length) (x_var rfl) (e_lenE (as := os) (x_var rfl)) (by omega) (by omega)) ha_nil))) (big (by show 3 ≤ _; decide))) fun v F6 H6 g6 o6 p6 => q v F6 H6 g6 o6 ?_
    obtain ⟨c, c1, c2⟩ := tup_ex3 p6
    exact ⟨.look r c, ⟨by omega, c1⟩, dat_tup.mpr c2⟩
  refine sh_if R o h0 (h_t (b := decide ((kind : Int) < 12)) (x_test (e_lt (x_var rfl) x_int))) (fun hb F5 H5 g5 R o => ?_) fun hb F5 H5 g5 R o => s_next ?_
  · exact sh_ret R o h0 (P := Dat (rowT (.tell r))) (h_x (tup2' x_str (x_var rfl))) fun v F6 H6 g6 o6 p6 => q v F6 H6 g6 o6 ⟨.tell r, by show r < 8; omega, p6⟩
  refine sh_asgX (p := fun n : Nat => n ≤ 3) (f := fun n => LstP ([Row.set r n, .rest, .same r s to, .less r s to, .add r r s].map fun x => Dat (rowT x))) R o h0 (EvH.imp (P := LstP (TupP [Dat (.str "set"), Dat (.int (r : Int)), ExT (fun n : Nat => n ≤ 3) fun n => Dat (.int (n : Int))] :: [Row.rest, .same r s to, .less r s to, .add r r s].map fun x => Dat (rowT x)))
    (h_lst (ha_cons (h_tup (ha_cons (h_x x_str) (ha_cons (h_x (x_var rfl)) (ha_cons (d_one (x_var rfl)) ha_nil))) (big (by show 3 ≤ _; decide))) (ha_cons (h_x (tup1 x_str)) (ha_cons (h_x (tup4 x_str (x_var rfl) (x_var rfl) (x_var rfl))) (ha_cons (h_x (tup4 x_str (x_var rfl) (x_var rfl) (x_var rfl))) (ha_cons (h_x (tup4 x_str (x_var rfl) (x_var rfl) (x_var rfl))) ha_nil))))) (big (by show 5 ≤ _; decide))) fun F v p => lst_head (fun F v p => let ⟨b, b1, b2⟩ := tup_ex3 p; ⟨b, b1, dat_tup.mpr b2⟩) p) fun n F5 H5 σ5 hn3 g5 R o => ?_
  refine g_asgS R (P := LstP ((rowsOf r s to n).map fun x => Dat (rowT x))) (x_catL (Qs := [Row.set r n, .rest, .same r s to, .less r s to, .add r r s].map fun x => Dat (rowT x)) (Rs := [Row.take r s r, .copy r s, .go to, .call to, .back].map fun x => Dat (rowT x)) (x_var rfl) (x_lst (a_cons (tup4 x_str (x_var rfl) (x_var rfl) (x_var rfl)) (a_cons (tup3 x_str (x_var rfl) (x_var rfl)) (a_cons (tup2' x_str (x_var rfl)) (a_cons (tup2' x_str (x_var rfl)) (a_cons (tup1 x_str) a_nil))))) (big (by show 5 ≤ _; decide))) (big (by show 5 + 5 ≤ _; decide))) fun F6 H6 σ6 g6 R => ?_
  replace o := o.step g6
  refine sh_ret R o h0 (h_opR (P' := LstP ((rowsOf r s to n).map fun x => Dat (rowT x))) (x_var rfl) (h_opR (P' := LstP (idxs.map fun (k : Nat) => Dat (.int (k : Int)))) (x_lst (a_cons x_int (a_cons x_int (a_cons x_int (a_cons x_int (a_cons x_int (a_cons x_int (a_cons x_int (a_cons x_int (a_cons x_int (a_cons x_int (a_cons x_int a_nil))))))))))) (big (by show 11 ≤ _; decide))) (d_draw (m := 11) (x_var rfl) x_int (by decide) (by decide)) fun d hd => x_ex (p := fun j : Nat => j < 10) (f := fun j => Dat (.int (j : Int))) (idxs.getD d 0) (idx_lt d hd) (x_ixL (n := d) (x_var rfl) (x_var rfl) (idx_at hd))) fun j hj => x_ex ((rowsOf r s to n)[j]'hj) (rows_ok hr3 hs3 hto hn3 _ (List.getElem_mem _)) (x_ixL (n := j) (x_var rfl) (x_var rfl) (by rw [List.getElem?_map, List.getElem?_eq_getElem (by exact hj)]; rfl))) q
end
end G
namespace G
open PySem PySem.Spec PyProof.Rows L2
open Enc (enc)
abbrev s_law_program : Stmt := top 70
abbrev nm_law_program : List Str := ["_law_hand_here", "_law_machines", "_law_most", "_law_owners", "_law_cell", "_law_codes", "_law_machine", "_law_many", "_law_code", "_law_at"]
abbrev ps_law_program : List Str := ["_law_hand_here", "_law_machines", "_law_most"]
theorem sc_law_program : FnScope nm_law_program ps_law_program (defScope s_law_program) := ⟨rfl, rfl, rfl, by decide +kernel, rfl, by decide +kernel, by decide +kernel⟩
abbrev s_law_small : Stmt := top 71
abbrev nm_law_small : List Str := ["_law_hand_here", "_law_machines", "_law_wires_here", "_law_owners", "_law_codes"]
abbrev ps_law_small : List Str := ["_law_hand_here"]
theorem sc_law_small : FnScope nm_law_small ps_law_small (defScope s_law_small) := ⟨rfl, rfl, rfl, by decide +kernel, rfl, by decide +kernel, by decide +kernel⟩
/-- what a drawn program is -/
structure CsI (os : List Nat) (most t : Nat) (cs : List (List Row)) : Prop where
  len : cs.length = t
  ok : ∀ i code, cs[i]? = some code → code.length ≤ most ∧ ∀ r ∈ code, RowOk os i code.length r
structure ProgI (N most : Nat) (p : List Nat × List (List Row)) : Prop where
  o1 : 1 ≤ p.1.length
  o3 : p.1.length ≤ 3
  own : ∀ o ∈ p.1, o < N
  cs : CsI p.1 most N p.2
theorem CsI.next {os : List Nat} {most t : Nat} {cs : List (List Row)} {code : List Row} (h : CsI os most t cs) (hl : code.length ≤ most) (hr : ∀ r ∈ code, RowOk os t code.length r) : CsI os most (t + 1) (cs ++ [code]) := by
  refine ⟨by rw [List.length_append, List.length_singleton, h.len], fun i c e => ?_⟩
  rcases get_snoc e with q | ⟨q, rfl⟩
  · exact h.ok i c q
  · rw [q, h.len]; exact ⟨hl, hr⟩
section
variable {P : Program} {w : World} {K : PySem.W.Frag} {mg : Str → Option Value} {base : Heap} {f f1 f2 f3 : Addr} {fd fd1 fd2 fd3 : FuncData}
abbrev sp_law_program : Sp := SpH (fun i : Nat × Nat => 1 ≤ i.1 ∧ i.1 ≤ 4 ∧ i.2 ≤ 6) (fun i => [Dat (.int (i.1 : Int)), Dat (.int (i.2 : Int))]) fun i => ExT (ProgI i.1 i.2) fun p => TupP [Dat (osT p.1), Dat (csT p.2)]
theorem ok__law_program (F : Fun K "_law_program" "_law_program" s_law_program f fd) (B : Bi mg) (G_law_draw : GF P w K mg base "_law_draw" ps_law_draw 3 sp_draw f1 fd1) (G_law_row : GF P w K mg base "_law_row" ps_law_row 4 sp_law_row f2 fd2) : FnOk P w K mg base CX0 5 f fd ps_law_program sp_law_program := by
  refine okH F sc_law_program (fun _ => rfl) fun cdv A outer s H E hr => ⟨_, (pss_cons (ps_set (i := 3) sc_law_program.nd rfl (Or.inr rfl) (pe_callTy (kC (r := rTupOf) (K := K) cTup rfl) (by rfl) B.tuple_ b_tuple (pa_cons (pe_lc (own := [("_law_cell", 4)]) rfl sc_law_program.nd (pi_range1 rfl B.range_ (pa_cons (pe_op oAddI pe_int (pe_f G_law_draw (hr.mono (by decide)) rfl (pa_cons (pv 0) (pa_cons pe_int pa_nil)))) pa_nil)) (blkOk_by (N := nm_law_program) (sc := defScope s_law_program) (by decide +kernel)) (fun _ _ _ _ _ => (pg_name (i := 4) sc_law_program.nd rfl (Or.inl rfl))) (fun _ _ _ _ _ => pts_nil) (fun _ _ _ _ _ => (pe_f G_law_draw (hr.mono (by decide)) rfl (pa_cons (pv 0) (pa_cons (pv 1) pa_nil))))) pa_nil)))
  (pss_cons (ps_set (i := 5) sc_law_program.nd rfl (Or.inl rfl) (pe_lst pa_nil))
  (pss_cons (ps_for PassesOwn.never rfl (pi_range1 rfl B.range_ (pa_cons (pv 1) pa_nil)) (pg_name (i := 6) sc_law_program.nd rfl (Or.inr rfl))
  (pss_cons (ps_set (i := 7) sc_law_program.nd rfl (Or.inr rfl) (pe_f G_law_draw (hr.mono (by decide)) rfl (pa_cons (pv 0) (pa_cons (pe_op oAddI (pv 2) pe_int) pa_nil))))
  (pss_cons (ps_setLc (i := 8) (own := [("_law_at", 9)]) rfl sc_law_program.nd rfl rfl (sw_true rfl rfl rfl (by decide +kernel)) (pi_range1 rfl B.range_ (pa_cons (pv 7) pa_nil)) (blkOk_by (N := nm_law_program) (sc := defScope s_law_program) (by decide +kernel)) (fun _ _ _ _ _ => (pg_name (i := 9) sc_law_program.nd rfl (Or.inl rfl))) (fun _ _ _ _ _ => pts_nil) (fun _ _ _ _ _ => (pe_f G_law_row (hr.mono (by decide)) rfl (pa_cons (pv 0) (pa_cons (pv 6) (pa_cons (pv 3) (pa_cons (pv 9) (pa_cons (pv 7) pa_nil))))))))
  (pss_cons (ps_if (PW.pt (pw_and (pt_cmpR oGtI (pv 7) pe_int (nomark _)) (pw_and1 (pt_cmpR oEqS (pe_f G_law_draw (hr.mono (by decide)) rfl (pa_cons (pv 0) (pa_cons pe_int pa_nil))) pe_int (nomark _)))))
  (pss_one (ps_asg (pe_tup (pa_cons pe_str (pa_cons (pe_f G_law_draw (hr.mono (by decide)) rfl (pa_cons (pv 0) (pa_cons pe_int pa_nil))) (pa_cons (pe_op oAddI pe_int (pe_f G_law_draw (hr.mono (by decide)) rfl (pa_cons (pv 0) (pa_cons pe_int pa_nil)))) pa_nil)))) (pg_sub (pv 8) pe_int set_list)))
  pss_nil)
  (pss_one (ps_expr (pe_bm PySem.F.plainAttrs_list PySem.F.slot_list_append PySem.F.type_list_append mt_append (pv 5) (pa_cons (pe_callTy (kC (r := rTupOf) (K := K) cTup rfl) (by rfl) B.tuple_ b_tuple (pa_cons (pv 8) pa_nil)) pa_nil))))))))
  (pss_one (ps_ret (pe_tup (pa_cons (pv 3) (pa_cons (pe_callTy (kC (r := rTupOf) (K := K) cTup rfl) (by rfl) B.tuple_ b_tuple (pa_cons (pv 5) pa_nil)) pa_nil)))))))), fun i F h vs Q hp h0 R o q => ?_⟩
  obtain ⟨N, most⟩ := i
  obtain ⟨n1, n4, hmost⟩ : 1 ≤ N ∧ N ≤ 4 ∧ most ≤ 6 := hp
  replace q : ∀ v F' H', Gr F (hid H h) F' H' → HandOk h F' H' → (ExT (ProgI N most) fun p => TupP [Dat (osT p.1), Dat (csT p.2)]).p F' v → Q v H' := q
  replace R : RS F (hid H h) F H (L2.start nm_law_program vs) [some (Vl (.ref h)), some (Dat (.int (N : Int))), some (Dat (.int (most : Int))), none, none, none, none, none, none, none] := R
  -- owners
  refine sh_asgX (p := fun os : List Nat => 1 ≤ os.length ∧ os.length ≤ 3 ∧ ∀ o ∈ os, o < N) (f := fun os => Dat (osT os)) R o h0 (h_cb (p := fun os : List Nat => 1 ≤ os.length ∧ os.length ≤ 3 ∧ ∀ o ∈ os, o < N) (f := fun os => LstP (os.map fun o => Dat (enc o)))
    ((lcH (K := K) (is := [4]) (fun n : Nat => 1 ≤ n ∧ n ≤ 3) (fun n => List.range n) (ts := fun (k : Nat) => [Dat (.int (k : Int))]) (ih_range (d_oneP (x_var rfl)) fun n hn => by omega) (fun _ _ k _ => .one 4 _) (by decide) (fun n hn => sz1 (by rw [List.length_range]; omega))
      (fun o : Nat => Dat (enc o)) (fun _ i l => l.length = i ∧ ∀ o ∈ l, o < N) (fun _ _ b => b = true) (fun _ _ b => b < N) (fun _ _ => ⟨rfl, fun o ho => absurd ho List.not_mem_nil⟩) (fun _ _ _ _ _ => h_yes) (fun _ _ _ _ _ _ => d_draw (m := N) (x_var rfl) (x_var rfl) (by omega) (by omega)) (fun _ _ _ _ _ _ hb _ => by cases hb)
      (fun _ i _ b l _ _ _ hb k => ⟨by rw [List.length_append, List.length_singleton, k.1], fun o ho => by
        rcases List.mem_append.mp ho with z | z
        · exact k.2 o z
        · rw [List.mem_singleton.mp z]; exact hb⟩) (fun _ i l k => by rw [k.1]; exact Nat.le_refl _)).frozen fun ls hls F v p => ?_) fun os hos => x_ex os hos (e_tupM (f := enc) (as := os) (x_var rfl))) fun os F1 H1 σ1 hos g1 R o => ?_
  · obtain ⟨n, l, hn, ⟨k1, k2⟩, rfl⟩ := hls
    rw [List.length_range] at k1
    exact ⟨l, ⟨by omega, by omega, k2⟩, p⟩
  obtain ⟨o1, o3, hown⟩ := hos
  -- codes
  refine so_lstS (Qs := []) R a_nil (Nat.zero_le _) fun lc F2 H2 σ2 gl hlc R ol => ?_
  replace o := o.step gl
  have nlc : lc ≠ h := o.ne_l ol (by decide)
  let Pt : Nat → Tys := fun _ => [some (Vl (.ref h)), some (Dat (.int (N : Int))), some (Dat (.int (most : Int))), some (Dat (osT os)), none, some (Vl (.ref lc)), none, none, none, none]
  have R' : RS F (hid H h) F2 H2 σ2 (Pt 0) := R
  refine s_forI (K := K) (is := [6]) (xs := List.range N) (ι := fun (k : Nat) => Dat (.int (k : Int))) (ts := fun (k : Nat) => [Dat (.int (k : Int))]) R' (i_range (a_cons (x_var rfl) a_nil) (by omega)) Pt (fun t F H => HandOk h F H ∧ ∃ cs, CsI os most t cs ∧ OpL lc F H (cs.map fun c => Dat (codeT c))) rfl ⟨o, [], ⟨rfl, fun i c e => by simp at e⟩, ol⟩ (fun k _ => .one 6 _) (fun t F H F' H' a g => ⟨a.1.step g, let ⟨ws, b1, b2⟩ := a.2; ⟨ws, b1, b2.step g⟩⟩) (fun Fb hFb t y hy F3 H3 σ3 R a => ?_) fun F3 H3 σ3 R a => ?_
  · have ht : t < N := by have := getElem?_lt hy; simpa using this
    rw [List.getElem?_range ht] at hy
    obtain rfl : t = y := Option.some.inj hy
    obtain ⟨o, cs, hcs, ol⟩ := a
    replace R : RS _ _ F3 H3 σ3 [some (Vl (.ref h)), some (Dat (.int (N : Int))), some (Dat (.int (most : Int))), some (Dat (osT os)), none, some (Vl (.ref lc)), some (Dat (.int (t : Int))), none, none, none] := R
    refine sh_asgX R o h0 (d_draw (m := most + 1) (x_var rfl) ((e_add (i := (most : Int)) (j := 1) (x_var rfl) x_int).cast (by rw [Int.natCast_add]; rfl)) (by omega) (by omega)) fun many F4 H4 σ4 hmany g4 R o => ?_
    replace ol := ol.stepE (A := [h]) (fun z => nlc (List.mem_singleton.mp z)) g4
    refine shl_asg R o h0 (lcH (K := K) (is := [9]) (fun _ : Unit => True) (fun _ => List.range many) (ts := fun (k : Nat) => [Dat (.int (k : Int))]) (ih_x (ι := fun (k : Nat) => Dat (.int (k : Int))) (i_range (a_cons (x_var rfl) a_nil) (by omega))) (fun _ _ k _ => .one 9 _) (by decide) (fun _ _ => sz1 (by rw [List.length_range]; omega))
      (fun r : Row => Dat (rowT r)) (fun _ i l => l.length = i ∧ ∀ r ∈ l, RowOk os t many r) (fun _ _ b => b = true) (fun _ _ r => RowOk os t many r) (fun _ _ => ⟨rfl, fun o ho => absurd ho List.not_mem_nil⟩) (fun _ _ _ _ _ => h_yes)
      (fun _ i k _ _ _ => h_callX (RowD.mk t os k many) ⟨o1, o3⟩ (x_var rfl) (a_cons (x_var rfl) (a_cons (x_var rfl) (a_cons (x_var rfl) (a_cons (x_var rfl) a_nil)))) rfl) (fun _ _ _ _ _ _ hb _ => by cases hb)
      (fun _ i _ b l _ _ _ hb k => ⟨by rw [List.length_append, List.length_singleton, k.1], fun r hr => by
        rcases List.mem_append.mp hr with z | z
        · exact k.2 r z
        · rw [List.mem_singleton.mp z]; exact hb⟩) fun _ i l k => by rw [k.1]; exact Nat.le_refl _) fun ls D1 F5 H5 σ5 hls g5 R o hD0 hD nD od => ?_
    have nDc : D1 ≠ lc := fun z => ol.some (by rw [← z]; exact hD)
    replace ol := ol.stepE (A := [h]) (fun z => nlc (List.mem_singleton.mp z)) g5
    obtain ⟨_, l, _, ⟨hl1, hl2⟩, rfl⟩ := hls
    rw [List.length_range] at hl1
    replace R : RS _ _ F5 H5 σ5 [some (Vl (.ref h)), some (Dat (.int (N : Int))), some (Dat (.int (most : Int))), some (Dat (osT os)), none, some (Vl (.ref lc)), some (Dat (.int (t : Int))), some (Dat (.int (many : Int))), some (Vl (.ref D1)), none] := R
    refine seq_both (I := fun σ H1 => ∃ F1 l, RS Fb (hid H h) F1 H1 σ [some (Vl (.ref h)), some (Dat (.int (N : Int))), some (Dat (.int (most : Int))), some (Dat (osT os)), none, some (Vl (.ref lc)), some (Dat (.int (t : Int))), some (Dat (.int (many : Int))), some (Vl (.ref D1)), none] ∧ HandOk h F1 H1 ∧ OpL lc F1 H1 (cs.map fun c => Dat (codeT c)) ∧ OpL D1 F1 H1 ((l : List Row).map fun r => Dat (rowT r)) ∧ l.length = many ∧ ∀ r ∈ l, RowOk os t many r) ?_ fun second => ?_
    · rintro σ6 H6 ⟨F6, l, R, o, ol, od, hl1, hl2⟩
      obtain ⟨F7, R, o, sm, mv⟩ := sh_fin (j := 8) R o od nD hD0 rfl
      replace ol := mv lc _ (fun z => nDc z.symm) ol
      refine so_append (P := Dat (codeT l)) R ol hlc (x_var rfl) (e_tupM (f := rowT) (as := l) (x_var rfl)) (by rw [List.length_map, hcs.len, sizeLine_eq]; omega) fun F8 H8 g8 R ol => ?_
      refine ⟨F8, ((R.forget 6).forget 7).forget 8, o.stepE (A := [lc]) (fun z => nlc (List.mem_singleton.mp z).symm) g8, cs ++ [l], hcs.next (by omega) (by rw [hl1]; exact hl2), ?_⟩
      rw [List.map_append]
      exact ol
    · refine sh_if R o h0 (φ := fun b => b = true → 1 < many) (h_and (h_t (b := decide ((1 : Int) < (many : Int))) (x_test (e_gt (x_var rfl) x_int))) (h_test (φ := fun _ => True) (h_opL (d_draw (m := 2) (x_var rfl) x_int (by decide) (by decide)) (x_int (i := 0)) fun d hd => x_ex (decide ((d : Int) = 0)) trivial (e_eqI (x_var rfl) (x_var rfl)))) (fun b h1 _ _ => by have h1 := h1.symm; rw [decide_eq_true_eq] at h1; omega) fun _ hf => by cases hf) (fun hb F6 H6 g6 R o => ?_) fun hb F6 H6 g6 R o => s_next (second _ _ ⟨F6, l, R, o, ol.stepE (A := [h]) (fun z => nlc (List.mem_singleton.mp z)) g6, od.stepE (A := [h]) (fun z => nD (List.mem_singleton.mp z)) g6, hl1, hl2⟩)
      replace ol := ol.stepE (A := [h]) (fun z => nlc (List.mem_singleton.mp z)) g6
      replace od := od.stepE (A := [h]) (fun z => nD (List.mem_singleton.mp z)) g6
      have h2 : 1 < many := hb rfl
      refine sh_setL (n := 0) (p := fun r : Row => RowOk os t many r) (f := fun r => Dat (rowT r)) R o h0 od nD hD0 (EvH.imp (P := TupP [Dat (.str "set"), LtT 3, ExT (fun n : Nat => n ≤ 3) fun n => Dat (.int (n : Int))]) (h_tup (ha_cons (h_x x_str) (ha_cons (d_draw (m := 3) (x_var rfl) x_int (by decide) (by decide)) (ha_cons (d_one (x_var rfl)) ha_nil))) (big (by show 3 ≤ _; decide))) fun F v p => ?_) (x_var rfl) x_int (by rw [List.length_map]; omega) fun r F7 H7 hrow g7 R o od => ?_
      · obtain ⟨n, hn, p⟩ := tup_ex3 p
        obtain ⟨d, hd, p⟩ := tup_ex2 p
        exact ⟨.set d n, ⟨by omega, by omega, by omega⟩, dat_tup.mpr p⟩
      · refine s_nx (second _ _ ⟨F7, l.set 0 r, R, o, ol.stepE (A := [h, D1]) (fun z => ?_) g7, by rw [List.map_set]; exact od, by rw [List.length_set]; exact hl1, fun x hx => ?_⟩)
        · rcases List.mem_cons.mp z with z | z
          · exact nlc z
          · exact nDc (List.mem_singleton.mp z).symm
        · rcases List.mem_or_eq_of_mem_set hx with z | z
          · exact hl2 x z
          · rw [z]; exact hrow
  · obtain ⟨o, cs, hcs, ol⟩ := a
    rw [List.length_range] at hcs
    obtain ⟨F4, R, o, _, _⟩ := sh_fin (j := 5) R o ol nlc hlc rfl
    exact s_nx (g_ret R (x_tup (Qs := [Dat (osT os), Dat (csT cs)]) (a_cons (x_var rfl) (a_cons (e_tupM (f := codeT) (as := cs) (x_var rfl)) a_nil)) (big (by show 2 ≤ _; decide))) fun v F5 H5 g g5 p5 => q v F5 H5 g5 (o.step g) ⟨(os, cs), ⟨o1, o3, hown, hcs⟩, p5⟩)
end
end G
namespace G
open PySem PySem.Spec PyProof.Rows L2
open Enc (enc)
structure SmallOk (g : PG) : Prop where
  ok : PGOk g
  wfew : g.ws.length ≤ 1000
theorem small_ok {N : Nat} {ws : List (Nat × Nat)} {p : List Nat × List (List Row)} {most : Nat} (n1 : 1 ≤ N) (n4 : N ≤ 4) (hw : WsI N N ws) (hp : ProgI N most p) (hm : most ≤ 6) : SmallOk ⟨ws, p.1, p.2⟩ := by
  have hl : p.2.length = N := hp.cs.len
  have hfew : ws.length ≤ 4 * 4 := Nat.le_trans hw.few (Nat.mul_le_mul n4 n4)
  refine ⟨⟨by show 1 ≤ p.2.length; omega, by show p.2.length ≤ 4; omega, hp.o1, hp.o3, fun o ho => by show o < p.2.length; rw [hl]; exact hp.own o ho, fun i code e => ?_, fun q hq => ?_, hw.lt⟩, by show ws.length ≤ 1000; omega⟩
  · obtain ⟨h1, h2⟩ := hp.cs.ok i code e
    exact ⟨Nat.le_trans h1 hm, h2⟩
  · show q.1 < p.2.length ∧ q.2 < p.2.length ∧ q.1 ≠ q.2
    rw [hl]
    exact hw.ok q hq
abbrev cnts : List Nat := [1, 2, 2, 2, 3, 4]
abbrev mosts : List Nat := [0, 6, 4, 2, 1]
theorem cnt_ok : ∀ d < 6, 1 ≤ cnts.getD d 0 ∧ cnts.getD d 0 ≤ 4 := by decide
theorem most_ok : ∀ d < 5, mosts.getD d 0 ≤ 6 := by decide
theorem num_at {ns : List Nat} {d : Nat} (h : d < ns.length) : (ns.map fun (k : Nat) => Dat (.int (k : Int)))[d]? = some (Dat (.int (ns.getD d 0 : Nat))) := by
  rw [List.getElem?_map, List.getD_eq_getElem?_getD, List.getElem?_eq_getElem h]
  rfl
section
variable {P : Program} {w : World} {K : PySem.W.Frag} {mg : Str → Option Value} {base : Heap} {f f1 f2 f3 : Addr} {fd fd1 fd2 fd3 : FuncData}
abbrev smallT (g : PG) : List Ty := [wsP g.ws, Dat (osT g.os), Dat (csT g.cs)]
abbrev sp_law_small : Sp := SpH (fun _ : Unit => True) (fun _ => []) fun _ => ExT SmallOk fun g => TupP (smallT g)
theorem ok__law_small (F : Fun K "_law_small" "_law_small" s_law_small f fd) (B : Bi mg) (G_law_draw : GF P w K mg base "_law_draw" ps_law_draw 3 sp_draw f1 fd1) (G_law_wires : GF P w K mg base "_law_wires" ps_law_wires 4 sp_law_wires f2 fd2) (G_law_program : GF P w K mg base "_law_program" ps_law_program 5 sp_law_program f3 fd3) : FnOk P w K mg base CX0 6 f fd ps_law_small sp_law_small := by
  refine okH F sc_law_small (fun _ => rfl) fun cdv A outer s H E hr => ⟨_, (pss_cons (ps_set (i := 1) sc_law_small.nd rfl (Or.inl rfl) (pe_ix (kIx (r := rIxL) (K := K) ix_list rfl) (pe_lst (pa_cons pe_int (pa_cons pe_int (pa_cons pe_int (pa_cons pe_int (pa_cons pe_int (pa_cons pe_int pa_nil))))))) (pe_f G_law_draw (hr.mono (by decide)) rfl (pa_cons (pv 0) (pa_cons pe_int pa_nil))) (fun _ _ => rfl)))
  (pss_cons (ps_set (i := 2) sc_law_small.nd rfl (Or.inl rfl) (pe_callTy (kC (r := rTupZ) (K := K) cTupZ rfl) (by rfl) B.tuple_ b_tuple (pa_cons (pe_f G_law_wires (hr.mono (by decide)) rfl (pa_cons (pv 0) (pa_cons (pv 1) (pa_cons (pe_op oAddI pe_int (pe_f G_law_draw (hr.mono (by decide)) rfl (pa_cons (pv 0) (pa_cons pe_int pa_nil)))) pa_nil)))) pa_nil)))
  (pss_cons (ps_asg (pe_f G_law_program (hr.mono (by decide)) rfl (pa_cons (pv 0) (pa_cons (pv 1) (pa_cons (pe_ix (kIx (r := rIxL) (K := K) ix_list rfl) (pe_lst (pa_cons pe_int (pa_cons pe_int (pa_cons pe_int (pa_cons pe_int (pa_cons pe_int pa_nil)))))) (pv 1) (fun _ _ => rfl)) pa_nil)))) (kPG (K := K) (pg_tup (n := 2) rfl (pgs_cons (pg_name (i := 3) sc_law_small.nd rfl (Or.inl rfl)) (pgs_cons (pg_name (i := 4) sc_law_small.nd rfl (Or.inl rfl)) pgs_nil))) rfl))
  (pss_one (ps_ret (pe_tup (pa_cons (pv 2) (pa_cons (pv 3) (pa_cons (pv 4) pa_nil))))))))), fun i F h vs Q hp h0 R o q => ?_⟩
  replace q : ∀ v F' H', Gr F (hid H h) F' H' → HandOk h F' H' → (ExT SmallOk fun g => TupP (smallT g)).p F' v → Q v H' := q
  replace R : RS F (hid H h) F H (L2.start nm_law_small vs) [some (Vl (.ref h)), none, none, none, none] := R
  refine sh_asgX (p := fun n : Nat => 1 ≤ n ∧ n ≤ 4) (f := fun n => Dat (.int (n : Int))) R o h0 (h_opR (P' := LstP (cnts.map fun (k : Nat) => Dat (.int (k : Int)))) (x_lst (a_cons x_int (a_cons x_int (a_cons x_int (a_cons x_int (a_cons x_int (a_cons x_int a_nil)))))) (big (by show 6 ≤ _; decide))) (d_draw (m := 6) (x_var rfl) x_int (by decide) (by decide)) fun d hd => x_ex (cnts.getD d 0) (cnt_ok d hd) (x_ixL (n := d) (x_var rfl) (x_var rfl) (num_at hd))) fun N F1 H1 σ1 hN g1 R o => ?_
  obtain ⟨n1, n4⟩ := hN
  refine sh_asgX (p := WsI N N) (f := wsP) R o h0 (h_cb (p := WsI N N) (f := fun ws => LstP (ws.map fun q => Dat (enc q))) (h_call (Rs := [Dat (.int (N : Int)), ExT (fun _ : Int => True) fun i => Dat (.int i)]) (x_var rfl) (ha_cons (h_x (x_var rfl)) (ha_cons (h_opR (P' := Dat (.int 3)) x_int (d_draw (m := 4) (x_var rfl) x_int (by decide) (by decide)) fun d hd => x_ex (3 + (d : Int)) trivial (e_add (x_var rfl) (x_var rfl))) ha_nil)) fun F us p => ?_) fun ws hws => x_ex ws hws (e_tupZ (x_var rfl))) fun ws F2 H2 σ2 hws g2 R o => ?_
  · cases p with
    | cons p1 p2 =>
      cases p2 with
      | cons p2 p3 =>
        cases p3
        obtain ⟨i, _, i2⟩ := p2
        exact ⟨(N, i), n4, .cons p1 (.cons i2 .nil), fun F v q => q⟩
  have hN5 : N < mosts.length := by show N < 5; omega
  refine sh_unp (is := [3, 4]) (p := ProgI N (mosts.getD N 0)) (f := fun p => [Dat (osT p.1), Dat (csT p.2)]) R o h0 (h_callX (N, mosts.getD N 0) ⟨n1, n4, most_ok N hN5⟩ (x_var rfl) (a_cons (x_var rfl) (a_cons (x_ixL (n := N) (Qs := mosts.map fun (k : Nat) => Dat (.int (k : Int))) (x_lst (a_cons x_int (a_cons x_int (a_cons x_int (a_cons x_int (a_cons x_int a_nil))))) (big (by show 5 ≤ _; decide))) (x_var rfl) (num_at hN5)) a_nil)) rfl) (fun _ => rfl) rfl fun p F3 H3 σ3 hp g3 R o => ?_
  refine sh_ret R o h0 (h_x (x_tup (Qs := smallT ⟨ws, p.1, p.2⟩) (a_cons (x_var rfl) (a_cons (x_var rfl) (a_cons (x_var rfl) a_nil))) (big (by show 3 ≤ _; decide)))) fun v F4 H4 g4 o4 p4 => q v F4 H4 g4 o4 ⟨⟨ws, p.1, p.2⟩, small_ok n1 n4 hws hp (most_ok N hN5), p4⟩
/-! the hand -/
/-- the script -/
def ScrP (K : PySem.W.Frag) (ns : List Int) : Ty := ⟨fun H v => ∃ a, v = .ref a ∧ SqL K H a (ns.map V.int), fun _ _ _ e ⟨a, h1, h2⟩ => ⟨a, h1, h2.elim (fun h => .inl (h.elim (fun h => .inl (e _ _ h)) fun ⟨o, h⟩ => .inr ⟨o, e _ _ h⟩)) fun h => .inr h⟩⟩
theorem x_slS {Ps : Tys} {te : TE} {tl th : TO} {ns : List Int} (h : EvX te Ps (ScrP K ns)) (h1 : EvO tl Ps none) (h2 : EvO th Ps (some (63 : Nat))) (hz : ns.length ≤ 63) : EvX (tSl (rSlL K) te tl th) Ps (LstP (ns.map fun i => Dat (.int i))) :=
  x_sl h h1 h2 fun F H x e ⟨a, k1, k2⟩ Q q => by
    have ce : cutV (ns.map V.int) none (some ((63 : Nat) : Int)) = ns.map V.int := by
      have := cut_to (ns.map V.int) 63
      rw [List.take_of_length_le (by rw [List.length_map]; exact hz)] at this
      exact this
    refine ⟨a, ns.map V.int, k1, (ScrP K ns).up _ _ _ e ⟨a, rfl, k2⟩ |> fun ⟨b, e1, e2⟩ => by cases e1; exact e2, fun p hp => ?_⟩
    rw [ce]
    exact q _ _ _ (.new e hp) ⟨p, _, rfl, upd_same, (AllP.map (f := fun i => Dat (.int i)) (g := V.int) (fun i => RT.int i) ns).up (Same.upd_new (e.free hp))⟩
theorem f_lst {Ps : Tys} {tl : TA} {Qs : List Ty} (h : EvA tl Ps Qs) (hl : Qs.length ≤ sizeLine) : EvF (tLst tl) Ps Qs := fun F H σ e s Q q =>
  h F H σ e s _ fun vs F1 H1 g1 p1 => ⟨by rw [← p1.len]; exact hl, fun p hp => q p F1 _ (g1.trans (.open g1.fh hp)) (g1.hh.free hp) ⟨g1.fh.free hp, vs, upd_same, p1⟩⟩
abbrev cellsOfS (ns : List Int) : List Int := ns.map fun i => if i < 0 then -i else i
abbrev sp_law_hand (K : PySem.W.Frag) : Sp := SpL (fun ns : List Int => ns.length ≤ 63) fun ns => ([ScrP K ns], handT (cellsOfS ns) 0 0 (1 + (ns.length : Int)) 0)
theorem ok__law_hand (F : Fun K "_law_hand" "_law_hand" s_law_hand f fd) (B : Bi mg) : FnOk P w K mg base CX0 3 f fd ps_law_hand (sp_law_hand K) := by
  refine okL F sc_law_hand (fun _ => rfl) fun cdv A outer s H E hr => ⟨_, (pss_cons (ps_setLc (i := 1) (own := [("_law_cell", 2)]) rfl sc_law_hand.nd rfl rfl (sw_true rfl rfl rfl (by decide +kernel)) (kPI (r := iList) (K := K) (pi_list (pe_slice (kSl (r := rSlL) (K := K) sl_list rfl) (pv 0) po_none (po_some pe_int))) rfl) (blkOk_by (N := nm_law_hand) (sc := defScope s_law_hand) (by decide +kernel)) (fun _ _ _ _ _ => (pg_name (i := 2) sc_law_hand.nd rfl (Or.inl rfl))) (fun _ _ _ _ _ => pts_nil) (fun _ _ _ _ _ => (pe_callB cAbs (by rfl) B.abs_ b_abs (pa_cons (pe_callTy cInt (by rfl) B.int_ b_int (pa_cons (pv 2) pa_nil)) pa_nil))))
  (pss_one (ps_ret (pe_lst (pa_cons (pv 1) (pa_cons pe_int (pa_cons pe_int (pa_cons (pe_op oAddI pe_int (pe_callB (kC (r := rLenG) (K := K) cLen rfl) (by rfl) B.len_ b_len (pa_cons (pv 1) pa_nil))) (pa_cons pe_int pa_nil))))))))), fun ns F vs Q hp R q => ?_⟩
  replace hp : ns.length ≤ 63 := hp
  replace R : RS F H F H (L2.start nm_law_hand vs) [some (ScrP K ns), none, none] := R
  refine s_asgS R (P := LstP ((cellsOfS ns).map fun i => Dat (.int i))) ?_ fun F1 H1 σ1 R => sf_ret R (f_lst (a_cons (x_var rfl) (a_cons x_int (a_cons x_int (a_cons (e_add x_int ((e_lenL (Qs := (cellsOfS ns).map fun i => Dat (.int i)) (x_var rfl)).cast (by rw [List.length_map, List.length_map]))) (a_cons x_int a_nil))))) (big (by show 5 ≤ _; decide))) q
  rw [List.map_map]
  exact x_lcM (K := K) (is := [2]) (xs := ns) (ι := fun i => Dat (.int i)) (ts := fun i => [Dat (.int i)]) (i_lst (x_slS (x_var rfl) o_none (o_some (i := ((63 : Nat) : Int)) x_int) hp)) (fun i _ => .one 2 _) (by decide) (sz1 (by omega)) fun i _ => e_abs (e_int (x_var rfl))
end
end G
namespace G
open PySem PySem.Spec PyProof.Rows L2
open Enc (enc)
abbrev s_law_runs_right : Stmt := top 75
abbrev nm_law_runs_right : List Str := ["_law_wires_here", "_law_owners", "_law_codes", "_law_web", "_law_program_here", "_law_due", "_law_outcome", "_law_steps", "_law_here", "_law_state", "_law_others"]
abbrev ps_law_runs_right : List Str := ["_law_wires_here", "_law_owners", "_law_codes", "_law_web", "_law_program_here", "_law_due"]
theorem sc_law_runs_right : FnScope nm_law_runs_right ps_law_runs_right (defScope s_law_runs_right) := ⟨rfl, rfl, rfl, by decide +kernel, rfl, by decide +kernel, by decide +kernel⟩
theorem SrchOk.sd {g : PG} (h : SrchOk g) {n : Nat} {sd : SD} (e : (allOf g)[n]? = some sd) : SDOk g n sd := (h.bf (Nat.le_refl _)).ok n sd e
theorem SrchOk.runPre {g : PG} (h : SrchOk g) {o : Oc} (ho : o ∈ (endsG g).map (·.1)) : RunPre g o := by
  obtain ⟨e, h1, h2⟩ := List.mem_map.mp ho
  obtain ⟨o', n⟩ := e
  cases h2
  obtain ⟨sd, k1, k2, k3⟩ := ends_at h1
  have hn := getElem?_lt k1
  have hfew := h.few
  refine ⟨h, by rw [h.oc_len ho]; have := h.gok.n4; omega, fun l hl => ?_⟩
  rw [← k3] at hl
  obtain ⟨m, hm, rfl⟩ := List.mem_map.mp hl
  obtain ⟨i, hi⟩ := List.mem_iff_getElem?.mp hm
  have := ((h.sd k1).ms i m hi).told
  omega
theorem SrchOk.path {g : PG} (h : SrchOk g) {n : Nat} {sd : SD} (e : (allOf g)[n]? = some sd) : LeadOk g (pathTo (bfsOf g) n) ∧ hereOf g (pathTo (bfsOf g) n) = sd := by
  have hn := getElem?_lt e
  have hfew := h.few
  obtain ⟨h1, h2⟩ := lead_path (h.bf (Nat.le_refl _)) n hn
  have e2 : sdAt (bfsOf g) n = sd := by
    unfold sdAt
    rw [List.getD_eq_getElem?_getD]
    show (((allOf g)[n]?).getD sd0) = sd
    rw [e]
    rfl
  have h2' : (pathTo (bfsOf g) n).length ≤ n := h2
  refine ⟨⟨h.gok, h.wfew, ⟨_, h1⟩, by omega⟩, ?_⟩
  unfold hereOf
  rw [h1, ← e2]
  rfl
section
variable {P : Program} {w : World} {K : PySem.W.Frag} {mg : Str → Option Value} {base : Heap} {f f1 f2 f3 : Addr} {fd fd1 fd2 fd3 : FuncData} {c : CA}
/-- not among these -/
def notIn {α : Type} [DecidableEq α] (as : List α) (a : α) : Bool := !decide (a ∈ as)
/-- told by each machine -/
theorem e_told {Ps : Tys} {v : Nat} {ta : TE} {sd : SD} (h : EvX ta Ps (Dat (enc sd))) (hz : sd.ss.length ≤ 1000) (hv : v < Ps.length) : EvX (tCB (rTupOf K) (tCons (tLc (iTup K (tOp (rIxT K) ta (tC (.int 0)))) (gName v) tYes (tOp (rIxT K) (tVar v) (tC (.int 3))) [v]) tNil)) Ps (Dat (enc (outc sd))) := by
  · refine e_tupM (f := enc) (as := outc sd) ?_
    unfold outc
    rw [List.map_map]
    refine x_lcM (K := K) (is := [v]) (xs := sd.ss) (ι := fun m => Dat (enc m)) (ts := fun m => [Dat (enc m)]) (i_tupM (f := enc) (as := sd.ss) (x_ixC (n := 0) (ts := [enc sd.ss, enc sd.ls]) h rfl)) (fun m _ => .one v _) (by simp) (sz1 (by omega)) fun m _ => ?_
    refine m_at (n := 3) (m := m) (x_var ?_) rfl
    show ((Ps.set v none).set v (some (Dat (enc m))))[v]? = _
    rw [List.getElem?_set_self (by rw [List.length_set]; exact hv)]
abbrev duesP (g : PG) : Ty := LstP ((dueG g).map fun o => Dat (enc o))
abbrev nine (n : Nat) : Oc := List.replicate n [9]
abbrev sp_runs_right (c : CA) : Sp := SpG (fun g : PG => SrchOk g) fun g => ([wsP g.ws, Dat (osT g.os), Dat (csT g.cs), webP c g, progP c g, duesP g], Dat (.bl true))
theorem ok__law_runs_right (F : Fun K "_law_runs_right" "_law_runs_right" s_law_runs_right f fd) (B : Bi mg) (G_run_to : GF P w K mg base "run_to" ps_run_to 14 (sp_run_to c) f1 fd1) (G_law_lead : GF P w K mg base "_law_lead" ps_law_lead 6 sp_law_lead f2 fd2) (G_law_ended : GF P w K mg base "_law_ended" ps_law_ended 3 sp_law_ended f3 fd3) :
    FnOk P w K mg base CX0 15 f fd ps_law_runs_right (sp_runs_right c) := by
  refine okG F sc_law_runs_right (fun _ => rfl) fun cdv A outer s H E hr => ⟨_, (pss_cons (ps_for PassesOwn.never rfl (kPI (r := iList) (K := K) (pi_list (pe_slice (kSl (r := rSlL) (K := K) sl_list rfl) (pv 5) (po_some (pe_un uNeg pe_int)) po_none)) rfl) (pg_name (i := 6) sc_law_runs_right.nd rfl (Or.inl rfl))
  (pss_cons (ps_set (i := 7) sc_law_runs_right.nd rfl (Or.inl rfl) (pe_f G_run_to (hr.mono (by decide)) rfl (pa_cons (pv 3) (pa_cons (pv 4) (pa_cons (pv 6) pa_nil)))))
  (pss_cons (ps_set (i := 8) sc_law_runs_right.nd rfl (Or.inl rfl) (pe_ifExp (pt_val (pe_callB (kC (r := rIsi) (K := K) call_isi rfl) (by rfl) B.isinstance_ b_isinstance (pa_cons (pv 7) (pa_cons (pe_bltn (v := .ty "list") (by rfl) B.list_ b_list rfl) pa_nil)))) (pe_f G_law_lead (hr.mono (by decide)) rfl (pa_cons (pv 0) (pa_cons (pv 1) (pa_cons (pv 2) (pa_cons (pv 7) pa_nil))))) pe_non))
  (pss_one (ps_if (PW.pt (pw_or (pt_cmpR oIsN (pv 8) pe_non (nomark _)) (pw_or (pt_not (pt_val (pe_f G_law_ended (hr.mono (by decide)) rfl (pa_cons (pv 8) (pa_cons (pv 2) pa_nil))))) (pw_or1 (pt_cmpR (kOp (r := rNeD) (K := K) (op_neD (ru64 (hr.mono (by decide)))) rfl) (pe_callTy (kC (r := rTupOf) (K := K) cTup rfl) (by rfl) B.tuple_ b_tuple (pa_cons (pe_lc (own := [("_law_state", 9)]) rfl sc_law_runs_right.nd (kPI (r := iTup) (K := K) (pi_tup (pe_ix (kIx (r := rIxT) (K := K) ix_tup rfl) (pv 8) pe_int (fun _ _ => rfl))) rfl) (blkOk_by (N := nm_law_runs_right) (sc := defScope s_law_runs_right) (by decide +kernel)) (fun _ _ _ _ _ => (pg_name (i := 9) sc_law_runs_right.nd rfl (Or.inl rfl))) (fun _ _ _ _ _ => pts_nil) (fun _ _ _ _ _ => (pe_ix (kIx (r := rIxT) (K := K) ix_tup rfl) (pv 9) pe_int (fun _ _ => rfl)))) pa_nil)) (pv 6) (nomark _))))))
  (pss_one (ps_ret pe_bl))
  pss_nil)))))
  (pss_cons (ps_set (i := 10) sc_law_runs_right.nd rfl (Or.inl rfl) (pe_lst (pa_cons (pe_op (kOp (r := rRepA) (K := K) op_repA rfl) (pe_tup (pa_cons (pe_tup (pa_cons pe_int pa_nil)) pa_nil)) (pe_callB (kC (r := rLenG) (K := K) cLen rfl) (by rfl) B.len_ b_len (pa_cons (pv 2) pa_nil))) pa_nil)))
  (pss_one (ps_ret (pe_callB (kC (r := rAll) (K := K) (cAll rfl) rfl) (by rfl) B.all_ b_all (pa_cons (pe_lc (own := [("_law_outcome", 6)]) rfl sc_law_runs_right.nd (kPI (r := iList) (K := K) (pi_list (pv 10)) rfl) (blkOk_by (N := nm_law_runs_right) (sc := defScope s_law_runs_right) (by decide +kernel)) (fun _ _ _ _ _ => (pg_name (i := 6) sc_law_runs_right.nd rfl (Or.inl rfl))) (fun _ _ _ _ _ => (pts_one (pt_cmpR (kOp (r := rNotInD) (K := K) (op_notInD (ru65 (hr.mono (by decide)))) rfl) (pv 6) (pv 5) rfl))) (fun _ _ _ _ _ => (pe_cmpR oIsN (pe_f G_run_to (hr.mono (by decide)) rfl (pa_cons (pv 3) (pa_cons (pv 4) (pa_cons (pv 6) pa_nil)))) pe_non (nomark _)))) pa_nil)))))), fun g F vs Q hp R q => ?_⟩
  have hs : SrchOk g := hp
  have hg := hs.gok
  have n4 := hg.n4
  replace q : ∀ v F' H', Gr F H F' H' → (Dat (.bl true)).p F' v → Q v H' := q
  let Pt : Nat → Tys := fun _ => [some (wsP g.ws), some (Dat (osT g.os)), some (Dat (csT g.cs)), some (webP c g), some (progP c g), some (duesP g), none, none, none, none, none]
  replace R : RS F H F H (L2.start nm_law_runs_right vs) (Pt 0) := R
  let xs := (dueG g).drop ((dueG g).length - 1)
  have hcut : cutG ((dueG g).map fun o => Dat (enc o)) (some (-1)) none = xs.map fun o => Dat (enc o) := by
    rw [show (-1 : Int) = -1 from rfl, cut_from_last, List.length_map, ← List.map_drop]
  refine s_for (K := K) (is := [6]) (xs := xs) (ι := fun o => Dat (enc o)) (ts := fun o => [Dat (enc o)]) R (i_lst (x_slL (x_var (P := duesP g) rfl) (o_some (e_neg x_int)) o_none hcut)) Pt rfl (fun o _ => .one 6 _) (fun Fb hFb t o ho F1 H1 σ1 R => ?_) fun F1 H1 σ1 R => s_nx ?_
  · have hod : o ∈ dueG g := List.drop_subset _ _ (List.mem_of_getElem? ho)
    have hoe := due_mem.mp hod
    replace R : RS _ _ F1 H1 σ1 [some (wsP g.ws), some (Dat (osT g.os)), some (Dat (csT g.cs)), some (webP c g), some (progP c g), some (duesP g), some (Dat (enc o)), none, none, none, none] := R
    refine s_asgS R (P := ExT (runR g o) (optP g)) (x_call (g, o) (hs.runPre hoe) (a_cons (x_var rfl) (a_cons (x_var rfl) (a_cons (x_var rfl) a_nil))) rfl) fun F2 H2 σ2 R => ?_
    obtain ⟨r, hrr, R⟩ := R.open_ (i := 7) rfl
    cases r with
    | none => exact absurd hoe hrr
    | some n =>
      obtain ⟨sd, k1, k2, k3⟩ := ends_at hrr
      obtain ⟨p1, p2⟩ := hs.path k1
      have hsd := hs.sd k1
      replace R : RS _ _ F2 H2 σ2 [some (wsP g.ws), some (Dat (osT g.os)), some (Dat (csT g.cs)), some (webP c g), some (progP c g), some (duesP g), some (Dat (enc o)), some (pathP g n), none, none, none] := R
      refine s_asgS R (P := Dat (enc sd)) (x_ifE (b := true) (x_test (e_isiL (Qs := (pathTo (bfsOf g) n).map fun s => Dat (enc s)) (x_var rfl) (kit1_lst (by decide +kernel)))) (fun _ => x_call (g, pathTo (bfsOf g) n) p1 (a_cons (x_var rfl) (a_cons (x_var rfl) (a_cons (x_var rfl) (a_cons (x_var rfl) a_nil)))) (by show Dat (enc (hereOf g (pathTo (bfsOf g) n))) = _; rw [p2])) fun h => by cases h) fun F3 H3 σ3 R => ?_
      replace R : RS _ _ F3 H3 σ3 [some (wsP g.ws), some (Dat (osT g.os)), some (Dat (csT g.cs)), some (webP c g), some (progP c g), some (duesP g), some (Dat (enc o)), some (pathP g n), some (Dat (enc sd)), none, none] := R
      refine s_ifF R (x_or (b := false) (c := false) (x_test (e_isN (P := Dat (enc sd)) (x_var rfl) fun F v p => by obtain ⟨a, xs, rfl, _⟩ := dat_tup.mp p; rfl)) fun _ => x_or (b := false) (c := false) ((x_not (x_test (x_call (P := Dat (.bl (ended g sd))) (sd, g.cs) (by show g.cs.length ≤ 1000; omega) (a_cons (x_var rfl) (a_cons (x_var rfl) a_nil)) rfl))).cast (by rw [k2]; rfl)) fun _ => (x_test (e_neE (a := outc sd) (a' := o) (e_told (v := 9) (x_var rfl) (by rw [hsd.len]; omega) (of_decide_eq_true rfl)) (x_var rfl))).cast (by rw [k3, decide_eq_true rfl]; rfl)) rfl fun F4 H4 R => ?_
      exact s_next ⟨F4, ((R.forget 6).forget 7).forget 8, trivial⟩
  · have h9 : ∀ l ∈ nine g.cs.length, l.length ≤ 50000 := fun l hl => by rw [(List.mem_replicate.mp hl).2]; decide
    have hpre : RunPre g (nine g.cs.length) := ⟨hs, by rw [List.length_replicate]; omega, h9⟩
    have hrep : List.replicate g.cs.length (enc ([9] : List Int)) = (nine g.cs.length).map enc := by rw [List.map_replicate]
    refine s_asgS R (P := LstP ([nine g.cs.length].map fun o => Dat (enc o))) (x_lst (a_cons ((e_repD (n := g.cs.length) (t := enc ([9] : List Int)) (tup1 (tup1 x_int)) (e_csLen (x_var rfl)) (by omega)).cast (by rw [hrep]; rfl)) a_nil) (big (by show 1 ≤ _; decide))) fun F2 H2 σ2 R => ?_
    refine s_ret R (P := Dat (.bl true)) ((e_all (bs := ([nine g.cs.length].filter (notIn (dueG g))).map fun _ => true) ?_).cast (by rw [all_yes])) q
    rw [List.map_map]
    refine x_lc (K := K) (is := [6]) (xs := [nine g.cs.length]) (ι := fun o => Dat (enc o)) (ts := fun o => [Dat (enc o)]) (b := notIn (dueG g)) (i_lst (x_var rfl)) (fun o _ => .one 6 _) (by decide) (sz1 (by show 1 ≤ _; decide)) (fun o ho => ?_) fun o ho hb => ?_
    · exact x_test (e_ninL (a := o) (as := dueG g) (x_var rfl) (x_var rfl))
    · unfold notIn at hb
      have ho' : o = nine g.cs.length := List.mem_singleton.mp ho
      have hn : o ∉ dueG g := by
        rw [Bool.not_eq_true', decide_eq_false_iff_not] at hb
        exact hb
      refine e_isN (P := ExT (runR g o) (optP g)) (x_call (g, o) (by rw [ho']; exact hpre) (a_cons (x_var rfl) (a_cons (x_var rfl) (a_cons (x_var rfl) a_nil))) rfl) fun F v p => ?_
      obtain ⟨r, r1, r2⟩ := p
      cases r with
      | none => rw [dat_non r2]; rfl
      | some n => exact absurd (due_mem.mpr (List.mem_map.mpr ⟨_, r1, rfl⟩)) hn
end
end G
namespace G
open PySem PySem.Spec PyProof.Rows L2
open Enc (enc)
abbrev s_law : Stmt := top 76
abbrev nm_law : List Str := ["_law_script", "_law_hand_here", "_law_turn", "_law_wires_here", "_law_owners", "_law_codes", "_law_web", "_law_program_here", "_law_found", "_law_due", "_law_told", "_law_idle", "_law_here", "_law_steps"]
abbrev ps_law : List Str := ["_law_script"]
theorem sc_law : FnScope nm_law ps_law (defScope s_law) := ⟨rfl, rfl, rfl, by decide +kernel, rfl, by decide +kernel, by decide +kernel⟩
theorem f_x {te : TE} {Ps : Tys} {Qs : List Ty} (e : EvF te Ps Qs) : EvX te Ps (LstP Qs) := fun F H σ s l Q q => e F H σ s l _ fun l F1 H1 g hl ⟨k1, us, k2, k3⟩ => q _ _ H1 (g.freeze hl k1 k2) ⟨l, us, rfl, upd_same, k3.up (Same.upd_new k1)⟩
/-- those that stand still before the end -/
def still (g : PG) : List SD := ((allOf g).filter fun sd => decide ((can g sd).length = 0)).filter fun sd => !ended g sd
theorem mem_still {g : PG} {sd : SD} : sd ∈ still g ↔ sd ∈ allOf g ∧ Idle g sd := by
  unfold still Idle
  rw [List.mem_filter, List.mem_filter, decide_eq_true_eq, List.length_eq_zero_iff, Bool.not_eq_true']
  exact and_assoc
theorem int_oc (o : Oc) (h : o.length ≤ 100000) (h2 : ∀ l ∈ o, l.length ≤ 100000) : IntT 3 (enc o) := by
  refine .inr ⟨o.map enc, rfl, by rw [List.length_map]; exact h, fun u hu => ?_⟩
  obtain ⟨l, hl, rfl⟩ := List.mem_map.mp hu
  refine .inr ⟨l.map enc, rfl, by rw [List.length_map]; exact h2 l hl, fun u hu => ?_⟩
  obtain ⟨i, _, rfl⟩ := List.mem_map.mp hu
  exact .inl ⟨i, rfl⟩
section
variable {P : Program} {w : World} {K : PySem.W.Frag} {mg : Str → Option Value} {base : Heap} {f : Addr} {fd : FuncData} {c : CA}
theorem forget_all {F0 H0 F H : Hp} {σ : L2.St} {Ps : Tys} (R : RS F0 H0 F H σ Ps) : ∀ is : List Nat, RS F0 H0 F H σ (is.foldl (fun Ps i => Ps.set i none) Ps)
  | [] => R
  | i :: is => forget_all (R.forget i) is
abbrev sp_law (K : PySem.W.Frag) : Sp := SpG (fun ns : List Int => ns.length ≤ 63) fun ns => ([ScrP K ns], Dat (.bl true))
theorem ok_law (F : Fun K "law" "law" s_law f fd) (B : Bi mg)
    {a1 a2 a3 a4 a5 a6 a7 a8 a9 a10 a11 a12 a13 a14 : Addr} {d1 d2 d3 d4 d5 d6 d7 d8 d9 d10 d11 d12 d13 d14 : FuncData}
    (G_law_hand : GF P w K mg base "_law_hand" ["_law_script"] 3 (sp_law_hand K) a1 d1) (G_law_small : GF P w K mg base "_law_small" ["_law_hand_here"] 6 sp_law_small a2 d2)
    (C_Web : GK P w K mg base "Web" c.web ["self", "machines", "wires"] 6 (sp_Web_init c) a3 d3) (C_Program : GK P w K mg base "Program" c.prog ["self", "owners", "codes"] 7 (sp_Program_init c) a4 d4)
    (G_law_all : GF P w K mg base "_law_all" ["_law_wires_here", "_law_owners", "_law_codes", "_law_most"] 6 sp_law_all a5 d5) (G_law_ends : GF P w K mg base "_law_ends" ["_law_found", "_law_codes"] 4 sp_law_ends a6 d6)
    (G_outcomes : GF P w K mg base "outcomes" ["web", "program"] 14 (sp_outcomes c) a7 d7) (G_law_is : GF P w K mg base "_law_is" ["_law_told", "_law_due"] 6 (sp_is 4) a8 d8)
    (G_many_standings : GF P w K mg base "many_standings" ["web", "program"] 14 (sp_many c) a9 d9) (G_law_runs_right : GF P w K mg base "_law_runs_right" ["_law_wires_here", "_law_owners", "_law_codes", "_law_web", "_law_program_here", "_law_due"] 15 (sp_runs_right c) a10 d10)
    (G_law_can : GF P w K mg base "_law_can" ["_law_wires_here", "_law_codes", "_law_here"] 4 sp_law_can a11 d11) (G_law_ended : GF P w K mg base "_law_ended" ["_law_here", "_law_codes"] 3 sp_law_ended a12 d12)
    (G_stuck : GF P w K mg base "stuck" ["web", "program"] 14 (sp_stuck c) a13 d13) (G_law_lead : GF P w K mg base "_law_lead" ["_law_wires_here", "_law_owners", "_law_codes", "_law_steps"] 6 sp_law_lead a14 d14) :
    FnOk P w K mg base CX0 16 f fd ps_law (sp_law K) := by
  refine okG F sc_law (fun _ => rfl) fun cdv A outer s H E hr => ⟨_, (pss_cons (ps_set (i := 1) sc_law.nd rfl (Or.inl rfl) (pe_f G_law_hand (hr.mono (by decide)) rfl (pa_cons (pv 0) pa_nil)))
  (pss_cons (ps_for PassesOwn.never rfl (pi_range1 rfl B.range_ (pa_cons pe_int pa_nil)) (pg_name (i := 2) sc_law.nd rfl (Or.inl rfl))
  (pss_cons (ps_asg (pe_f G_law_small (hr.mono (by decide)) rfl (pa_cons (pv 1) pa_nil)) (kPG (K := K) (pg_tup (n := 3) rfl (pgs_cons (pg_name (i := 3) sc_law.nd rfl (Or.inr rfl)) (pgs_cons (pg_name (i := 4) sc_law.nd rfl (Or.inl rfl)) (pgs_cons (pg_name (i := 5) sc_law.nd rfl (Or.inr rfl)) pgs_nil)))) rfl))
  (pss_cons (ps_par (i := 6) (j := 7) rfl sc_law.nd rfl rfl (by decide) rfl rfl (pa_cons (pe_k C_Web (hr.mono (by decide)) rfl (pa_cons (pe_callB (kC (r := rLenG) (K := K) cLen rfl) (by rfl) B.len_ b_len (pa_cons (pv 5) pa_nil)) (pa_cons (pv 3) pa_nil))) (pa_cons (pe_k C_Program (hr.mono (by decide)) rfl (pa_cons (pv 4) (pa_cons (pv 5) pa_nil))) pa_nil)) rfl)
  (pss_cons (ps_set (i := 8) sc_law.nd rfl (Or.inl rfl) (pe_f G_law_all (hr.mono (by decide)) rfl (pa_cons (pv 3) (pa_cons (pv 4) (pa_cons (pv 5) (pa_cons pe_int pa_nil))))))
  (pss_one (ps_if (pt_cmpR oLeI (pe_callB (kC (r := rLenG) (K := K) cLen rfl) (by rfl) B.len_ b_len (pa_cons (pv 8) pa_nil)) pe_int (nomark _))
  (pss_cons (ps_set (i := 9) sc_law.nd rfl (Or.inl rfl) (pe_f G_law_ends (hr.mono (by decide)) rfl (pa_cons (pv 8) (pa_cons (pv 5) pa_nil))))
  (pss_cons (ps_set (i := 10) sc_law.nd rfl (Or.inl rfl) (pe_f G_outcomes (hr.mono (by decide)) rfl (pa_cons (pv 6) (pa_cons (pv 7) pa_nil))))
  (pss_cons (ps_if (PW.pt (pw_or (pt_not (pt_val (pe_f G_law_is (hr.mono (by decide)) rfl (pa_cons (pv 10) (pa_cons (pv 9) pa_nil))))) (pw_or1 (pt_not (pt_val (pe_f G_law_is (hr.mono (by decide)) rfl (pa_cons (pe_f G_many_standings (hr.mono (by decide)) rfl (pa_cons (pv 6) (pa_cons (pv 7) pa_nil))) (pa_cons (pe_callB (kC (r := rLenG) (K := K) cLen rfl) (by rfl) B.len_ b_len (pa_cons (pv 8) pa_nil)) pa_nil))))))))
  (pss_one (ps_ret pe_bl))
  pss_nil)
  (pss_cons (ps_expr (pe_bm PySem.F.plainAttrs_list PySem.F.slot_list_append PySem.F.type_list_append mt_append (pv 10) (pa_cons pe_non pa_nil)))
  (pss_cons (ps_if (PW.pt (pw_or (pt_cmpR (kOp (r := rNeD) (K := K) (op_neD (ru64 (hr.mono (by decide)))) rfl) (pe_f G_outcomes (hr.mono (by decide)) rfl (pa_cons (pv 6) (pa_cons (pv 7) pa_nil))) (pv 9) (nomark _)) (pw_or1 (pt_not (pt_val (pe_f G_law_runs_right (hr.mono (by decide)) rfl (pa_cons (pv 3) (pa_cons (pv 4) (pa_cons (pv 5) (pa_cons (pv 6) (pa_cons (pv 7) (pa_cons (pv 9) pa_nil))))))))))))
  (pss_one (ps_ret pe_bl))
  pss_nil)
  (pss_cons (ps_setLc (i := 11) (own := [("_law_here", 12)]) rfl sc_law.nd rfl rfl (sw_true rfl rfl rfl (by decide +kernel)) (kPI (r := iList) (K := K) (pi_list (pv 8)) rfl) (blkOk_by (N := nm_law) (sc := defScope s_law) (by decide +kernel)) (fun _ _ _ _ _ => (pg_name (i := 12) sc_law.nd rfl (Or.inl rfl))) (fun _ _ _ _ _ => (pts_one (pt_cmpR oEqS (pe_callB (kC (r := rLenG) (K := K) cLen rfl) (by rfl) B.len_ b_len (pa_cons (pe_f G_law_can (hr.mono (by decide)) rfl (pa_cons (pv 3) (pa_cons (pv 5) (pa_cons (pv 12) pa_nil)))) pa_nil)) pe_int (nomark _)))) (fun _ _ _ _ _ => (pv 12)))
  (pss_cons (ps_setLc (i := 11) (own := [("_law_here", 12)]) rfl sc_law.nd rfl rfl (sw_true rfl rfl rfl (by decide +kernel)) (kPI (r := iList) (K := K) (pi_list (pv 11)) rfl) (blkOk_by (N := nm_law) (sc := defScope s_law) (by decide +kernel)) (fun _ _ _ _ _ => (pg_name (i := 12) sc_law.nd rfl (Or.inl rfl))) (fun _ _ _ _ _ => (pts_one (pt_not (pt_val (pe_f G_law_ended (hr.mono (by decide)) rfl (pa_cons (pv 12) (pa_cons (pv 5) pa_nil))))))) (fun _ _ _ _ _ => (pv 12)))
  (pss_cons (ps_set (i := 13) sc_law.nd rfl (Or.inl rfl) (pe_f G_stuck (hr.mono (by decide)) rfl (pa_cons (pv 6) (pa_cons (pv 7) pa_nil))))
  (pss_cons (ps_if (pt_cmpR oNeS (pe_cmpR oIsN (pv 13) pe_non (nomark _)) (pe_cmpR oEqS (pe_callB (kC (r := rLenG) (K := K) cLen rfl) (by rfl) B.len_ b_len (pa_cons (pv 11) pa_nil)) pe_int (nomark _)) (nomark _))
  (pss_one (ps_ret pe_bl))
  pss_nil)
  (pss_one (ps_if (PW.pt (pw_and (pt_cmpR oNotN (pv 13) pe_non (nomark _)) (pw_and1 (pt_cmpR (kOp (r := rNotInD) (K := K) (op_notInD (ru65 (hr.mono (by decide)))) rfl) (pe_f G_law_lead (hr.mono (by decide)) rfl (pa_cons (pv 3) (pa_cons (pv 4) (pa_cons (pv 5) (pa_cons (pv 13) pa_nil))))) (pv 11) rfl))))
  (pss_one (ps_ret pe_bl))
  pss_nil)))))))))))
  pss_nil))))))
  (pss_one (ps_ret pe_bl)))), fun ns F vs Q hp R q => ?_⟩
  replace hp : ns.length ≤ 63 := hp
  replace q : ∀ v F' H', Gr F H F' H' → (Dat (.bl true)).p F' v → Q v H' := q
  replace R : RS F H F H (L2.start nm_law vs) [some (ScrP K ns), none, none, none, none, none, none, none, none, none, none, none, none, none] := R
  refine sf_asgS R (f_call (Qs := handT (cellsOfS ns) 0 0 (1 + (ns.length : Int)) 0) ns hp (a_cons (x_var rfl) a_nil) rfl) fun h F1 H1 σ1 g1 h0 hh R oh => ?_
  have o : HandOk h F1 H1 := ⟨_, _, _, _, _, oh⟩
  clear oh g1 hh
  let Pt : Nat → Tys := fun _ => [some (ScrP K ns), some (Vl (.ref h)), none, none, none, none, none, none, none, none, none, none, none, none]
  replace R : RS F H F1 H1 σ1 (Pt 0) := R
  refine s_forI (K := K) (is := [2]) (xs := List.range 2) (ι := fun (k : Nat) => Dat (.int (k : Int))) (ts := fun (k : Nat) => [Dat (.int (k : Int))]) R (i_range (n := 2) (a_cons x_int a_nil) (by decide)) Pt (fun _ F H => HandOk h F H) rfl o (fun k _ => .one 2 _) (fun t F H F' H' a g => a.step g) (fun Fb hFb t y hy F2 H2 σ2 R o => ?_) fun F2 H2 σ2 R o => s_nx (s_ret R x_bl q)
  clear hy
  have fin : ∀ {F3 H3 : Hp} {σ3 : L2.St} {Ps : Tys}, RS Fb H F3 H3 σ3 Ps → HandOk h F3 H3 → [2, 3, 4, 5, 6, 7, 8, 9, 10, 11, 12, 13].foldl (fun Ps i => Ps.set i none) Ps = Pt (t + 1) → ∃ F, RS Fb H F H3 σ3 (Pt (t + 1)) ∧ HandOk h F H3 := fun R o e => ⟨_, by rw [← e]; exact forget_all R _, o⟩
  replace R : RS Fb H F2 H2 σ2 [some (ScrP K ns), some (Vl (.ref h)), some (Dat (.int (y : Int))), none, none, none, none, none, none, none, none, none, none, none] := R
  refine sh_unp (is := [3, 4, 5]) (p := SmallOk) (f := smallT) R o h0 (h_callX () trivial (x_var rfl) a_nil rfl) (fun _ => rfl) rfl fun g F3 H3 σ3 hg g3 R o => ?_
  obtain ⟨hg, hw⟩ := hg
  have n1 := hg.n1
  have n4 := hg.n4
  refine g_par R (a_cons (x_make (P := webP c g) g ⟨hg, hw⟩ (a_cons (e_csLen (x_var rfl)) (a_cons (x_var rfl) a_nil)) rfl) (a_cons (x_make (P := progP c g) g hg (a_cons (x_var rfl) (a_cons (x_var rfl) a_nil)) rfl) a_nil)) fun F4 H4 σ4 g4 R => s_nx ?_
  replace o := o.step g4
  refine g_asgS R (P := LstP (fsT (allOf g))) (x_call g ⟨hg, hw⟩ (a_cons (x_var rfl) (a_cons (x_var rfl) (a_cons (x_var rfl) (a_cons x_int a_nil)))) rfl) fun F5 H5 σ5 g5 R => ?_
  replace o := o.step g5
  replace R : RS Fb H F5 H5 σ5 [some (ScrP K ns), some (Vl (.ref h)), some (Dat (.int (y : Int))), some (wsP g.ws), some (Dat (osT g.os)), some (Dat (csT g.cs)), some (webP c g), some (progP c g), some (LstP (fsT (allOf g))), none, none, none, none, none] := R
  refine sh_if R o h0 (h_t (b := decide (((allOf g).length : Int) ≤ 250)) (x_test (e_le ((e_lenL (Qs := fsT (allOf g)) (x_var rfl)).cast (by rw [List.length_map])) x_int))) (fun hb F6 H6 g6 R o => ?_) fun hb F6 H6 g6 R o => s_next (fin R o rfl)
  have hfew : (allOf g).length ≤ 250 := by have hb := hb.symm; rw [decide_eq_true_eq] at hb; omega
  have hs : SrchOk g := ⟨hg, hw, hfew⟩
  clear hb
  have hst : ∀ sd ∈ allOf g, StOk g sd := hs.ends2.st
  have hlen : ∀ sd ∈ allOf g, sd.ss.length = g.cs.length := fun sd hsd => by obtain ⟨_, _, k, _, k2⟩ := hst sd hsd; exact k2.len
  refine g_asgS R (P := duesP g) (x_call (allOf g, g.cs) ⟨hfew, by show g.cs.length ≤ 1000; omega, fun sd hsd => ⟨fun z => by have := hlen sd hsd; rw [z] at this; simp at this; omega, by rw [hlen sd hsd]; omega⟩⟩ (a_cons (x_var rfl) (a_cons (x_var rfl) a_nil)) rfl) fun F7 H7 σ7 g7 R => ?_
  replace o := o.step g7
  refine sf_asgS R (f_call (Qs := (dueG g).map fun o => Dat (enc o)) g hs (a_cons (x_var rfl) (a_cons (x_var rfl) a_nil)) rfl) fun l F8 H8 σ8 g8 hl0 hl R ol => ?_
  have nl : l ≠ h := o.ne hl
  replace o := o.step g8
  replace R : RS Fb H F8 H8 σ8 [some (ScrP K ns), some (Vl (.ref h)), some (Dat (.int (y : Int))), some (wsP g.ws), some (Dat (osT g.os)), some (Dat (csT g.cs)), some (webP c g), some (progP c g), some (LstP (fsT (allOf g))), some (duesP g), some (Vl (.ref l)), none, none, none] := R
  have hlst : ((dueG g).map enc).map Dat = (dueG g).map fun o => Dat (enc o) := by rw [List.map_map]; rfl
  have hdl : (dueG g).length ≤ 250 := by
    rw [← due_eq, (srt_perm _).length_eq, List.length_map]
    exact endsG_len g hs
  have hint : ∀ u ∈ (dueG g).map enc, IntT 3 u := fun u hu => by
    obtain ⟨o, ho, rfl⟩ := List.mem_map.mp hu
    have := hs.runPre (due_mem.mp ho)
    exact int_oc o (Nat.le_trans this.len (by decide)) fun l hl => Nat.le_trans (this.each l hl) (by decide)
  refine so_if (PsN := [some (ScrP K ns), some (Vl (.ref h)), some (Dat (.int (y : Int))), some (wsP g.ws), some (Dat (osT g.os)), some (Dat (csT g.cs)), some (webP c g), some (progP c g), some (LstP (fsT (allOf g))), some (duesP g), some (duesP g), none, none, none]) R ((slots_now R).know (j := 10) rfl (ol.now R.fh))
    (x_or (b := false) (c := false) ((x_not (x_test (x_call (P := Dat (.bl true)) (Sum.inr ((dueG g).map enc)) ⟨by decide, by rw [List.length_map]; omega, hint⟩ (by
      show EvA _ _ [LstP (((dueG g).map enc).map Dat), LstP (((dueG g).map enc).map Dat)]
      rw [hlst]
      exact a_cons (x_var rfl) (a_cons (x_var rfl) a_nil)) rfl))).cast rfl) fun _ => (x_not (x_test (x_call (P := Dat (.bl true)) (Sum.inl (.int ((allOf g).length : Int))) (.inl ⟨_, rfl⟩) (a_cons (x_call g hs (a_cons (x_var rfl) (a_cons (x_var rfl) a_nil)) rfl) (a_cons ((e_lenL (Qs := fsT (allOf g)) (x_var rfl)).cast (by rw [List.length_map])) a_nil)) rfl))).cast rfl) (fun hb => by cases hb) fun _ F9 H9 g9 R => s_next ?_
  replace o := o.step g9
  replace ol := ol.step g9
  refine so_append R ol hl0 (x_var rfl) x_non (by rw [List.length_map, sizeLine_eq]; omega) fun F10 H10 g10 R ol => s_nx ?_
  replace o := o.stepE (A := [l]) (fun z => nl (List.mem_singleton.mp z).symm) g10
  clear ol
  refine g_ifF R (x_or (b := false) (c := false) ((x_test (e_neL (as := dueG g) (as' := dueG g) (f_x (f_call g hs (a_cons (x_var rfl) (a_cons (x_var rfl) a_nil)) rfl)) (x_var rfl))).cast (by rw [decide_eq_true rfl]; rfl)) fun _ => (x_not (x_test (x_call (P := Dat (.bl true)) g hs (a_cons (x_var rfl) (a_cons (x_var rfl) (a_cons (x_var rfl) (a_cons (x_var rfl) (a_cons (x_var rfl) (a_cons (x_var rfl) a_nil)))))) rfl))).cast rfl) rfl fun F11 H11 g11 R => s_next ?_
  replace o := o.step g11
  have hcan : ∀ sd ∈ allOf g, HOk2 g.ws g.cs sd := fun sd hsd => by obtain ⟨_, _, k, k1, k2⟩ := hst sd hsd; exact k2.ok2 hg (by omega) hw
  refine g_asgS R (P := LstP (((allOf g).filter fun sd => decide ((can g sd).length = 0)).map fun sd => Dat (enc sd))) (x_lc (K := K) (is := [12]) (xs := allOf g) (ι := fun sd => Dat (enc sd)) (ts := fun sd => [Dat (enc sd)]) (b := fun sd => decide ((can g sd).length = 0)) (i_lst (x_var rfl)) (fun sd _ => .one 12 _) (by decide) (sz1 (by omega)) (fun sd hsd => ?_) fun sd _ _ => x_var rfl) fun F12 H12 σ12 g12 R => ?_
  · refine (x_test (e_eqI ((e_lenL (Qs := (can g sd).map fun s => Dat (enc s)) (x_call (g.ws, g.cs, sd) (hcan sd hsd) (a_cons (x_var rfl) (a_cons (x_var rfl) (a_cons (x_var rfl) a_nil))) rfl)).cast (by rw [List.length_map])) (x_int (i := 0)))).cast (decide_eq_decide.mpr (by omega))
  replace o := o.step g12
  replace R : RS Fb H F12 H12 σ12 [some (ScrP K ns), some (Vl (.ref h)), some (Dat (.int (y : Int))), some (wsP g.ws), some (Dat (osT g.os)), some (Dat (csT g.cs)), some (webP c g), some (progP c g), some (LstP (fsT (allOf g))), some (duesP g), some (Vl (.ref l)), some (LstP (((allOf g).filter fun sd => decide ((can g sd).length = 0)).map fun sd => Dat (enc sd))), none, none] := R
  have hfl : ((allOf g).filter fun sd => decide ((can g sd).length = 0)).length ≤ 250 := Nat.le_trans (List.length_filter_le _ _) hfew
  refine g_asgS R (P := LstP ((still g).map fun sd => Dat (enc sd))) (x_lc (K := K) (is := [12]) (xs := (allOf g).filter fun sd => decide ((can g sd).length = 0)) (ι := fun sd => Dat (enc sd)) (ts := fun sd => [Dat (enc sd)]) (b := fun sd => !ended g sd) (i_lst (x_var rfl)) (fun sd _ => .one 12 _) (by decide) (sz1 (by omega)) (fun sd hsd => ?_) fun sd _ _ => x_var rfl) fun F13 H13 σ13 g13 R => ?_
  · exact x_not (x_test (x_call (P := Dat (.bl (ended g sd))) (sd, g.cs) (by show g.cs.length ≤ 1000; omega) (a_cons (x_var rfl) (a_cons (x_var rfl) a_nil)) rfl))
  replace o := o.step g13
  refine g_asgS R (P := ExT (stuckR g) (optP g)) (x_call g hs (a_cons (x_var rfl) (a_cons (x_var rfl) a_nil)) rfl) fun F14 H14 σ14 g14 R => ?_
  replace o := o.step g14
  obtain ⟨r, hrr, R⟩ := R.open_ (i := 13) rfl
  replace R : RS Fb H F14 H14 σ14 [some (ScrP K ns), some (Vl (.ref h)), some (Dat (.int (y : Int))), some (wsP g.ws), some (Dat (osT g.os)), some (Dat (csT g.cs)), some (webP c g), some (progP c g), some (LstP (fsT (allOf g))), some (duesP g), some (Vl (.ref l)), some (LstP ((still g).map fun sd => Dat (enc sd))), none, some (optP g r)] := R
  have hisN : ∀ F v, (optP g r).p F v → decide (v = .non) = r.isNone := fun F v p => by
    cases r with
    | none => rw [dat_non p]; rfl
    | some n => obtain ⟨a, xs, rfl, _⟩ := p; rfl
  have hnil : decide ((still g).length = 0) = r.isNone := by
    cases r with
    | none =>
      refine decide_eq_true ?_
      cases e : still g with
      | nil => rfl
      | cons sd _ =>
        have := mem_still.mp (show sd ∈ still g by rw [e]; exact List.mem_cons_self)
        exact absurd this.2 (hrr sd this.1)
    | some n =>
      refine decide_eq_false fun z => ?_
      obtain ⟨sd, k1, k2⟩ := hrr
      have := mem_still.mpr ⟨List.mem_of_getElem? k1, k2⟩
      rw [List.length_eq_zero_iff.mp z] at this
      exact absurd this List.not_mem_nil
  refine g_ifF R ((x_test (e_neB (e_isN (x_var rfl) hisN) (e_eqI ((e_lenL (Qs := (still g).map fun sd => Dat (enc sd)) (x_var rfl)).cast (by rw [List.length_map])) (x_int (i := 0))))).cast (b := _) rfl) (by
    rw [show decide (((still g).length : Int) = 0) = r.isNone by rw [← hnil]; exact decide_eq_decide.mpr (by omega), decide_eq_true rfl]
    rfl) fun F15 H15 g15 R => s_next ?_
  replace o := o.step g15
  refine sh_if R o h0 (h_t (b := false) ((x_and (b := !r.isNone) (c := false) (x_test (e_notN (x_var rfl) hisN)) fun hb => ?_).cast (Bool.and_false _))) (fun hb => by cases hb) fun _ F16 H16 g16 R o => s_next (fin R o rfl)
  cases r with
  | none => cases hb
  | some n =>
    obtain ⟨sd, k1, k2⟩ := hrr
    obtain ⟨p1, p2⟩ := hs.path k1
    exact (x_test (e_ninL (a := sd) (as := still g) (x_call (g, pathTo (bfsOf g) n) p1 (a_cons (x_var rfl) (a_cons (x_var rfl) (a_cons (x_var rfl) (a_cons (x_var rfl) a_nil)))) (by show Dat (enc (hereOf g (pathTo (bfsOf g) n))) = _; rw [p2])) (x_var rfl))).cast (by rw [decide_eq_true (mem_still.mpr ⟨List.mem_of_getElem? k1, k2⟩)]; rfl)
end
end G
set_option Elab.async false
set_option linter.all false
set_option maxRecDepth 100000
set_option maxHeartbeats 0
/-! The head: the top's run, what it leaves, and the join of the defs' promises. -/
namespace G
open PySem PySem.Spec PyProof.Rows L2
def dD_law_hand : He.DefD := ⟨("_law_hand", none), "_law_hand", "_law_hand", defArgs s_law_hand, defBody s_law_hand, defScope s_law_hand, [], []⟩
def dD_law_draw : He.DefD := ⟨("_law_draw", none), "_law_draw", "_law_draw", defArgs s_law_draw, defBody s_law_draw, defScope s_law_draw, [], []⟩
def dD_law_wires : He.DefD := ⟨("_law_wires", none), "_law_wires", "_law_wires", defArgs s_law_wires, defBody s_law_wires, defScope s_law_wires, [], []⟩
def dD_law_row : He.DefD := ⟨("_law_row", none), "_law_row", "_law_row", defArgs s_law_row, defBody s_law_row, defScope s_law_row, [], []⟩
def dD_law_program : He.DefD := ⟨("_law_program", none), "_law_program", "_law_program", defArgs s_law_program, defBody s_law_program, defScope s_law_program, [], []⟩
def dD_law_small : He.DefD := ⟨("_law_small", none), "_law_small", "_law_small", defArgs s_law_small, defBody s_law_small, defScope s_law_small, [], []⟩
def dD_is_integer : He.DefD := ⟨("is_integer", none), "is_integer", "is_integer", defArgs s_is_integer, defBody s_is_integer, defScope s_is_integer, [], []⟩
def dD_is_within : He.DefD := ⟨("is_within", none), "is_within", "is_within", defArgs s_is_within, defBody s_is_within, defScope s_is_within, [], []⟩
def dD_is_pair : He.DefD := ⟨("is_pair", none), "is_pair", "is_pair", defArgs s_is_pair, defBody s_is_pair, defScope s_is_pair, [], []⟩
def dD_is_wire_pair : He.DefD := ⟨("is_wire_pair", none), "is_wire_pair", "is_wire_pair", defArgs s_is_wire_pair, defBody s_is_wire_pair, defScope s_is_wire_pair, [], []⟩
def dD_Web_keep : He.DefD := ⟨("Web", some "keep"), "keep", "Web.keep", defArgs s_Web_keep, defBody s_Web_keep, defScope s_Web_keep, [], []⟩
def dD_Web_init : He.DefD := ⟨("Web", some "__init__"), "__init__", "Web.__init__", defArgs s_Web_init, defBody s_Web_init, defScope s_Web_init, [], []⟩
def dD_is_sized : He.DefD := ⟨("is_sized", none), "is_sized", "is_sized", defArgs s_is_sized, defBody s_is_sized, defScope s_is_sized, [], []⟩
def dD_is_row : He.DefD := ⟨("is_row", none), "is_row", "is_row", defArgs s_is_row, defBody s_is_row, defScope s_is_row, [], []⟩
def dD_is_part : He.DefD := ⟨("is_part", none), "is_part", "is_part", defArgs s_is_part, defBody s_is_part, defScope s_is_part, [], []⟩
def dD_is_row_of : He.DefD := ⟨("is_row_of", none), "is_row_of", "is_row_of", defArgs s_is_row_of, defBody s_is_row_of, defScope s_is_row_of, [], []⟩
def dD_Program_keep : He.DefD := ⟨("Program", some "keep"), "keep", "Program.keep", defArgs s_Program_keep, defBody s_Program_keep, defScope s_Program_keep, [], []⟩
def dD_Program_init : He.DefD := ⟨("Program", some "__init__"), "__init__", "Program.__init__", defArgs s_Program_init, defBody s_Program_init, defScope s_Program_init, [], []⟩
def dD_law_first : He.DefD := ⟨("_law_first", none), "_law_first", "_law_first", defArgs s_law_first, defBody s_law_first, defScope s_law_first, [], []⟩
def dD_law_runs : He.DefD := ⟨("_law_runs", none), "_law_runs", "_law_runs", defArgs s_law_runs, defBody s_law_runs, defScope s_law_runs, [], []⟩
def dD_law_can : He.DefD := ⟨("_law_can", none), "_law_can", "_law_can", defArgs s_law_can, defBody s_law_can, defScope s_law_can, [], []⟩
def dD_law_sum : He.DefD := ⟨("_law_sum", none), "_law_sum", "_law_sum", defArgs s_law_sum, defBody s_law_sum, defScope s_law_sum, [], []⟩
def dD_law_set : He.DefD := ⟨("_law_set", none), "_law_set", "_law_set", defArgs s_law_set, defBody s_law_set, defScope s_law_set, [], []⟩
def dD_law_after : He.DefD := ⟨("_law_after", none), "_law_after", "_law_after", defArgs s_law_after, defBody s_law_after, defScope s_law_after, [], []⟩
def dD_law_sent : He.DefD := ⟨("_law_sent", none), "_law_sent", "_law_sent", defArgs s_law_sent, defBody s_law_sent, defScope s_law_sent, [], []⟩
def dD_law_noted : He.DefD := ⟨("_law_noted", none), "_law_noted", "_law_noted", defArgs s_law_noted, defBody s_law_noted, defScope s_law_noted, [], []⟩
def dD_law_behind : He.DefD := ⟨("_law_behind", none), "_law_behind", "_law_behind", defArgs s_law_behind, defBody s_law_behind, defScope s_law_behind, [], []⟩
def dD_law_all : He.DefD := ⟨("_law_all", none), "_law_all", "_law_all", defArgs s_law_all, defBody s_law_all, defScope s_law_all, [], []⟩
def dD_law_ended : He.DefD := ⟨("_law_ended", none), "_law_ended", "_law_ended", defArgs s_law_ended, defBody s_law_ended, defScope s_law_ended, [], []⟩
def dD_law_ends : He.DefD := ⟨("_law_ends", none), "_law_ends", "_law_ends", defArgs s_law_ends, defBody s_law_ends, defScope s_law_ends, [], []⟩
def dD_check_program : He.DefD := ⟨("check_program", none), "check_program", "check_program", defArgs s_check_program, defBody s_check_program, defScope s_check_program, [], []⟩
def dD_Standing_key : He.DefD := ⟨("Standing", some "key"), "key", "Standing.key", defArgs s_Standing_key, defBody s_Standing_key, defScope s_Standing_key, [], []⟩
def dD_Standing_is_everywhere : He.DefD := ⟨("Standing", some "is_everywhere"), "is_everywhere", "Standing.is_everywhere", defArgs s_Standing_is_everywhere, defBody s_Standing_is_everywhere, defScope s_Standing_is_everywhere, [], []⟩
def dD_word_of : He.DefD := ⟨("word_of", none), "word_of", "word_of", defArgs s_word_of, defBody s_word_of, defScope s_word_of, [], []⟩
def dD_Standing_word : He.DefD := ⟨("Standing", some "word"), "word", "Standing.word", defArgs s_Standing_word, defBody s_Standing_word, defScope s_Standing_word, [], []⟩
def dD_Standing_can : He.DefD := ⟨("Standing", some "can"), "can", "Standing.can", defArgs s_Standing_can, defBody s_Standing_can, defScope s_Standing_can, [], []⟩
def dD_check_many : He.DefD := ⟨("check_many", none), "check_many", "check_many", defArgs s_check_many, defBody s_check_many, defScope s_check_many, [], []⟩
def dD_Search_add : He.DefD := ⟨("Search", some "add"), "add", "Search.add", defArgs s_Search_add, defBody s_Search_add, defScope s_Search_add, [], []⟩
def dD_State_init : He.DefD := ⟨("State", some "__init__"), "__init__", "State.__init__", defArgs s_State_init, defBody s_State_init, defScope s_State_init, [], []⟩
def dD_State_copied : He.DefD := ⟨("State", some "copied"), "copied", "State.copied", defArgs s_State_copied, defBody s_State_copied, defScope s_State_copied, [], []⟩
def dD_number_by : He.DefD := ⟨("number_by", none), "number_by", "number_by", defArgs s_number_by, defBody s_number_by, defScope s_number_by, [], []⟩
def dD_at_fault : He.DefD := ⟨("at_fault", none), "at_fault", "at_fault", defArgs s_at_fault, defBody s_at_fault, defScope s_at_fault, [], []⟩
def dD_with_item : He.DefD := ⟨("with_item", none), "with_item", "with_item", defArgs s_with_item, defBody s_with_item, defScope s_with_item, [], []⟩
def dD_goes : He.DefD := ⟨("goes", none), "goes", "goes", defArgs s_goes, defBody s_goes, defScope s_goes, [], []⟩
def dD_after_row : He.DefD := ⟨("after_row", none), "after_row", "after_row", defArgs s_after_row, defBody s_after_row, defScope s_after_row, [], []⟩
def dD_written : He.DefD := ⟨("written", none), "written", "written", defArgs s_written, defBody s_written, defScope s_written, [], []⟩
def dD_Standing_init : He.DefD := ⟨("Standing", some "__init__"), "__init__", "Standing.__init__", defArgs s_Standing_init, defBody s_Standing_init, defScope s_Standing_init, [], []⟩
def dD_Standing_with_state : He.DefD := ⟨("Standing", some "with_state"), "with_state", "Standing.with_state", defArgs s_Standing_with_state, defBody s_Standing_with_state, defScope s_Standing_with_state, [], []⟩
def dD_Standing_done : He.DefD := ⟨("Standing", some "done"), "done", "Standing.done", defArgs s_Standing_done, defBody s_Standing_done, defScope s_Standing_done, [], []⟩
def dD_Standing_came : He.DefD := ⟨("Standing", some "came"), "came", "Standing.came", defArgs s_Standing_came, defBody s_Standing_came, defScope s_Standing_came, [], []⟩
def dD_Standing_behind : He.DefD := ⟨("Standing", some "behind"), "behind", "Standing.behind", defArgs s_Standing_behind, defBody s_Standing_behind, defScope s_Standing_behind, [], []⟩
def dD_Search_init : He.DefD := ⟨("Search", some "__init__"), "__init__", "Search.__init__", defArgs s_Search_init, defBody s_Search_init, defScope s_Search_init, [], []⟩
def dD_first_standing : He.DefD := ⟨("first_standing", none), "first_standing", "first_standing", defArgs s_first_standing, defBody s_first_standing, defScope s_first_standing, [], []⟩
def dD_search : He.DefD := ⟨("search", none), "search", "search", defArgs s_search, defBody s_search, defScope s_search, [], []⟩
def dD_Standing_is_ended : He.DefD := ⟨("Standing", some "is_ended"), "is_ended", "Standing.is_ended", defArgs s_Standing_is_ended, defBody s_Standing_is_ended, defScope s_Standing_is_ended, [], []⟩
def dD_Standing_outcome : He.DefD := ⟨("Standing", some "outcome"), "outcome", "Standing.outcome", defArgs s_Standing_outcome, defBody s_Standing_outcome, defScope s_Standing_outcome, [], []⟩
def dD_Search_ends : He.DefD := ⟨("Search", some "ends"), "ends", "Search.ends", defArgs s_Search_ends, defBody s_Search_ends, defScope s_Search_ends, [], []⟩
def dD_outcomes_of : He.DefD := ⟨("outcomes_of", none), "outcomes_of", "outcomes_of", defArgs s_outcomes_of, defBody s_outcomes_of, defScope s_outcomes_of, [], []⟩
def dD_outcomes : He.DefD := ⟨("outcomes", none), "outcomes", "outcomes", defArgs s_outcomes, defBody s_outcomes, defScope s_outcomes, [], []⟩
def dD_law_is : He.DefD := ⟨("_law_is", none), "_law_is", "_law_is", defArgs s_law_is, defBody s_law_is, defScope s_law_is, [], []⟩
def dD_many_standings : He.DefD := ⟨("many_standings", none), "many_standings", "many_standings", defArgs s_many_standings, defBody s_many_standings, defScope s_many_standings, [], []⟩
def dD_is_outcome : He.DefD := ⟨("is_outcome", none), "is_outcome", "is_outcome", defArgs s_is_outcome, defBody s_is_outcome, defScope s_is_outcome, [], []⟩
def dD_Search_steps_to : He.DefD := ⟨("Search", some "steps_to"), "steps_to", "Search.steps_to", defArgs s_Search_steps_to, defBody s_Search_steps_to, defScope s_Search_steps_to, [], []⟩
def dD_run_to : He.DefD := ⟨("run_to", none), "run_to", "run_to", defArgs s_run_to, defBody s_run_to, defScope s_run_to, [], []⟩
def dD_law_whole : He.DefD := ⟨("_law_whole", none), "_law_whole", "_law_whole", defArgs s_law_whole, defBody s_law_whole, defScope s_law_whole, [], []⟩
def dD_law_lead : He.DefD := ⟨("_law_lead", none), "_law_lead", "_law_lead", defArgs s_law_lead, defBody s_law_lead, defScope s_law_lead, [], []⟩
def dD_law_runs_right : He.DefD := ⟨("_law_runs_right", none), "_law_runs_right", "_law_runs_right", defArgs s_law_runs_right, defBody s_law_runs_right, defScope s_law_runs_right, [], []⟩
def dD_stuck : He.DefD := ⟨("stuck", none), "stuck", "stuck", defArgs s_stuck, defBody s_stuck, defScope s_stuck, [], []⟩
def dD_law : He.DefD := ⟨("law", none), "law", "law", defArgs s_law, defBody s_law, defScope s_law, [], []⟩
def fnL : List He.DefD := [dD_law_hand, dD_law_draw, dD_law_wires, dD_law_row, dD_law_program, dD_law_small, dD_is_integer, dD_is_within, dD_is_pair, dD_is_wire_pair, dD_Web_keep, dD_Web_init, dD_is_sized, dD_is_row, dD_is_part, dD_is_row_of, dD_Program_keep, dD_Program_init, dD_law_first, dD_law_runs, dD_law_can, dD_law_sum, dD_law_set, dD_law_after, dD_law_sent, dD_law_noted, dD_law_behind, dD_law_all, dD_law_ended, dD_law_ends, dD_check_program, dD_Standing_key, dD_Standing_is_everywhere, dD_word_of, dD_Standing_word, dD_Standing_can, dD_check_many, dD_Search_add, dD_State_init, dD_State_copied, dD_number_by, dD_at_fault, dD_with_item, dD_goes, dD_after_row, dD_written, dD_Standing_init, dD_Standing_with_state, dD_Standing_done, dD_Standing_came, dD_Standing_behind, dD_Search_init, dD_first_standing, dD_search, dD_Standing_is_ended, dD_Standing_outcome, dD_Search_ends, dD_outcomes_of, dD_outcomes, dD_law_is, dD_many_standings, dD_is_outcome, dD_Search_steps_to, dD_run_to, dD_law_whole, dD_law_lead, dD_law_runs_right, dD_stuck, dD_law]
def faL : List He.Fa := [.free "len", .free "all", .free "abs", .free "min", .free "int", .free "bool", .free "str", .free "list", .free "tuple", .free "set", .free "isinstance", .free "range", .free "zip", .free "enumerate", .free "sorted", .int "REGISTERS_machines" 8, .int "MOST_SUM" 1000000000000, .int "MOST_REMEMBERED" 20, .int "MOST_MACHINES_webs" 7, .int "MOST_STANDINGS" 5000, .int "MOST_MACHINES_programs" 7, .int "MOST_CELLS" 8, .int "MOST_ROWS" 60, .int "REGISTERS_programs" 8, .int "MOST_SET" 1000000, .cls "State", .noat "State" "row", .noat "State" "registers", .noat "State" "remembered", .noat "State" "told", .noat "State" "cells", .noat "State" "diary", .noat "State" "faulted", .noat "State" "up", .cls "Web", .noat "Web" "machines", .noat "Web" "wires", .cls "Program", .noat "Program" "owners", .noat "Program" "codes", .cls "Standing", .noat "Standing" "web", .noat "Standing" "program", .noat "Standing" "states", .noat "Standing" "letters", .cls "Search", .noat "Search" "found", .noat "Search" "ways", .noat "Search" "numbers", .glo "_law_hand", .glo "_law_draw", .glo "_law_wires", .glo "_law_row", .glo "_law_program", .glo "_law_small", .glo "is_integer", .glo "is_within", .glo "is_pair", .glo "is_wire_pair", .meth "Web" "keep", .mkr "Web", .glo "Web", .glo "is_sized", .glo "is_row", .glo "is_part", .glo "is_row_of", .meth "Program" "keep", .mkr "Program", .glo "Program", .glo "_law_first", .glo "_law_runs", .glo "_law_can", .glo "_law_sum", .glo "_law_set", .glo "_law_after", .glo "_law_sent", .glo "_law_noted", .glo "_law_behind", .glo "_law_all", .glo "_law_ended", .glo "_law_ends", .glo "check_program", .meth "Standing" "key", .meth "Standing" "is_everywhere", .glo "word_of", .meth "Standing" "word", .meth "Standing" "can", .glo "check_many", .meth "Search" "add", .mkr "State", .glo "State", .meth "State" "copied", .glo "number_by", .glo "at_fault", .glo "with_item", .glo "goes", .glo "after_row", .glo "written", .mkr "Standing", .glo "Standing", .meth "Standing" "with_state", .meth "Standing" "done", .meth "Standing" "came", .meth "Standing" "behind", .mkr "Search", .glo "Search", .glo "first_standing", .glo "search", .meth "Standing" "is_ended", .meth "Standing" "outcome", .meth "Search" "ends", .glo "outcomes_of", .glo "outcomes", .glo "_law_is", .glo "many_standings", .glo "is_outcome", .meth "Search" "steps_to", .glo "run_to", .glo "_law_whole", .glo "_law_lead", .glo "_law_runs_right", .glo "stuck", .glo "law", .glo "FORMS"]
def tsL : List He.Tab := [(fun K => He.ga K "FORMS", [("set" : Str), ("copy" : Str), ("add" : Str), ("take" : Str), ("put" : Str), ("look" : Str), ("tell" : Str), ("rest" : Str), ("same" : Str), ("less" : Str), ("go" : Str), ("call" : Str), ("back" : Str)])]
def kvL : List (Str × He.Dv) := [("set", .str "rn"), ("copy", .str "rr"), ("add", .str "rrr"), ("take", .str "rrr"), ("put", .str "or"), ("look", .str "rc"), ("tell", .str "r"), ("rest", .str ""), ("same", .str "rrt"), ("less", .str "rrt"), ("go", .str "t"), ("call", .str "t"), ("back", .str "")]
def exF (K : PySem.W.Frag) : Bool := He.valsB K (He.ga K "FORMS") kvL
def looseL0 : List Str := [("GrowError" : Str), ("BadWeb" : Str), ("BadProgram" : Str), ("TooMany" : Str), ("OtherMachines" : Str), ("is_integer" : Str), ("is_within" : Str), ("is_pair" : Str), ("is_row" : Str), ("is_sized" : Str), ("check_many" : Str), ("REGISTERS_machines" : Str), ("MOST_SUM" : Str), ("MOST_REMEMBERED" : Str), ("State" : Str), ("with_item" : Str), ("written" : Str), ("at_fault" : Str), ("number_by" : Str), ("goes" : Str), ("after_row" : Str), ("word_of" : Str), ("MOST_MACHINES_webs" : Str), ("is_wire_pair" : Str), ("Web" : Str), ("check_program" : Str), ("MOST_STANDINGS" : Str), ("Standing" : Str), ("first_standing" : Str), ("Search" : Str), ("search" : Str), ("outcomes_of" : Str), ("is_outcome" : Str), ("outcomes" : Str), ("run_to" : Str)]
def looseL1 : List Str := [("stuck" : Str), ("many_standings" : Str), ("MOST_MACHINES_programs" : Str), ("MOST_CELLS" : Str), ("MOST_ROWS" : Str), ("REGISTERS_programs" : Str), ("MOST_SET" : Str), ("FORMS" : Str), ("is_part" : Str), ("is_row_of" : Str), ("Program" : Str), ("_law_first" : Str), ("_law_whole" : Str), ("_law_runs" : Str), ("_law_can" : Str), ("_law_sum" : Str), ("_law_set" : Str), ("_law_after" : Str), ("_law_sent" : Str), ("_law_noted" : Str), ("_law_behind" : Str), ("_law_lead" : Str), ("_law_ended" : Str), ("_law_hand" : Str), ("_law_draw" : Str), ("_law_wires" : Str), ("_law_row" : Str), ("_law_program" : Str), ("_law_small" : Str), ("_law_all" : Str), ("_law_ends" : Str), ("_law_is" : Str), ("_law_runs_right" : Str)]
def looseL : List Str := looseL0 ++ looseL1
abbrev lawI : Nat := 76
abbrev Rw : PySem.W.OpenRow := PySem.W.OpenLaw.row PySem.Challenge.rw_growalong_k40_whole_outcomes_by_own_step
/-- where the top's defs, their codes, the classes and the table lie -/
def asL : List Addr := [3, 103, 110, 117, 124, 131, 138, 162, 173, 180, 187, 194, 201, 208, 215, 220, 251, 262, 339, 348, 386, 397, 404, 409, 416, 423, 430, 437, 438, 445, 450, 481, 492, 499, 504, 509, 516, 523, 530, 535, 542, 547, 552, 557, 562, 569, 574, 579, 584, 591, 598, 603, 608, 613, 618, 102, 109, 116, 123, 130, 137, 161, 172, 179, 186, 193, 200, 207, 214, 219, 250, 261, 338, 347, 385, 396, 403, 408, 415, 422, 429, 436, 444, 449, 480, 491, 498, 503, 508, 515, 522, 529, 534, 541, 546, 551, 556, 561, 568, 573, 578, 583, 590, 597, 602, 607, 612, 617, 152, 159, 234, 241, 276, 283, 288, 295, 300, 305, 310, 317, 322, 329, 336, 362, 369, 376, 383, 464, 471, 151, 158, 233, 240, 275, 282, 287, 294, 299, 304, 309, 316, 321, 328, 335, 361, 368, 375, 382, 463, 470]
def obY (g : Addr → Option Obj) : He.AlT × Bool := (He.obsT faL fnL tsL (He.frG g asL), exF (He.frG g asL))
def hkH : PySem.W.Hook where
  α := He.AlT × Bool
  obs := fun s => obY s.heap.get?
  val := fun w => (He.valT fnL tsL w, true)
  says := fun w h => ∃ K : PySem.W.Frag, K.In h ∧ He.SaysT faL fnL tsL w K ∧ exF K = true
  of := fun _ _ e => ⟨_, He.frG_in, congrArg (fun z : He.AlT × Bool => z.1) e, congrArg (fun z : He.AlT × Bool => z.2) e⟩
  keeps := fun _ _ _ ⟨K, hK, c⟩ k => ⟨K, PySem.W.Frag.In.keeps hK k, c⟩
def obH (s : PySem.W.SharedT) : He.AlT × Bool := obY (HandSHeadRun.getT s)
theorem obH_eq (s : PySem.W.SharedT) : obH s = hkH.obs s.abs := by
  have e : HandSHeadRun.getT s = s.abs.heap.get? := funext (HandSHeadRun.getT_eq s)
  unfold obH
  rw [e]
  rfl
theorem run_f (w : World) : HandSHeadRun.RunEq Rw (PySem.W.view Rw.prog [lawI]) hkH obH 6000 looseL (w.withFollow "special-get-raises" false) := by
  intro os
  kernel_rfl
theorem run_t (w : World) : HandSHeadRun.RunEq Rw (PySem.W.view Rw.prog [lawI]) hkH obH 6000 looseL (w.withFollow "special-get-raises" true) := by
  intro os
  kernel_rfl
theorem run_top (w : World) : HandSHeadRun.RunEq Rw (PySem.W.view Rw.prog [lawI]) hkH obH 6000 looseL w := PySem.W.byRow2 "special-get-raises" (P := fun w => HandSHeadRun.RunEq Rw (PySem.W.view Rw.prog [lawI]) hkH obH 6000 looseL w) run_f run_t w
end G
set_option Elab.async false
set_option linter.all false
set_option maxRecDepth 100000
set_option maxHeartbeats 0
namespace G
open PySem PySem.Spec PyProof.Rows L2
theorem fun_of {K : PySem.W.Frag} {x qual : Str} {st : Stmt} {f : Addr} {fd : FuncData} (F : FunD K x qual (defArgs st) (defBody st) (defScope st) [] [] f fd) : Fun K x qual st f fd := by
  obtain ⟨⟨oc, od, dV, kV, doc, pm, an, cdv, ct, osl, e, lk, hcd, hD, hK⟩, kp⟩ := F
  rcases hD with ⟨_, rfl⟩ | ⟨z, _⟩
  · exact ⟨⟨oc, od, kV, doc, pm, an, cdv, ct, osl, e, lk, hcd⟩, kp⟩
  · exact absurd rfl z
abbrev ccOf (K : PySem.W.Frag) : CA := ⟨He.ga K "State", He.ga K "Web", He.ga K "Program", He.ga K "Standing", He.ga K "Search"⟩
/-- what the head leaves -/
structure EnvOk (w : World) (K : PySem.W.Frag) (mg : Str → Option Value) (h : Heap) : Prop where
  X : K.In h
  G : h.Ns mainGlobals mg
  c : He.SaysT faL fnL tsL w K
  e : exF K = true
section
variable {P : Program} {w : World} {K : PySem.W.Frag} {h : Heap} {mg : Str → Option Value} {base : Heap}
theorem EnvOk.fa (v : EnvOk w K mg h) (i : Nat) {f : He.Fa} (e : faL[i]? = some f) : f.ok K = true := v.c.d.fact i e
theorem EnvOk.free (v : EnvOk w K mg h) (i : Nat) {x : Str} (e : faL[i]? = some (.free x)) : mg x = none := He.free_ok v.X v.G (v.c.d.fact i e)
theorem EnvOk.int (v : EnvOk w K mg h) (i : Nat) {x : Str} {n : Int} (e : faL[i]? = some (.int x n)) : GInt mg x n := He.int_ok v.X v.G (v.c.d.fact i e)
theorem EnvOk.glo (v : EnvOk w K mg h) (i : Nat) {x : Str} (e : faL[i]? = some (.glo x)) : mg x = some (.ref (He.ga K x)) := He.glo_ok v.X v.G (v.c.d.fact i e)
theorem EnvOk.forms (v : EnvOk w K mg h) : FormsOk K w mg (He.ga K "FORMS") := by
  obtain ⟨es, n, D⟩ := v.c.tab 0 rfl
  refine ⟨v.glo 123 rfl, D.low, fun q hq => ?_⟩
  have hm : (q.1, He.Dv.str q.2) ∈ kvL := by
    have e : kvL = formsL.map fun q => (q.1, He.Dv.str q.2) := rfl
    rw [e]
    exact List.mem_map.mpr ⟨q, hq, rfl⟩
  obtain ⟨u, h1, h2⟩ := He.valsB_ok (show He.valsB K (He.ga K "FORMS") kvL = true from v.e) hm
  exact ⟨es, n, u, D.at_, D.lit, h1, h2⟩
theorem EnvOk.B (v : EnvOk w K mg h) : Bi mg := ⟨v.free 0 rfl, v.free 1 rfl, v.free 2 rfl, v.free 3 rfl, v.free 4 rfl, v.free 5 rfl, v.free 6 rfl, v.free 7 rfl, v.free 8 rfl, v.free 9 rfl, v.free 10 rfl, v.free 11 rfl, v.free 12 rfl, v.free 13 rfl, v.free 14 rfl⟩
theorem EnvOk.M (v : EnvOk w K mg h) : Mods mg := ⟨v.int 15 rfl, v.int 16 rfl, v.int 17 rfl, v.int 18 rfl, v.int 19 rfl, v.int 20 rfl, v.int 21 rfl, v.int 22 rfl, v.int 23 rfl, v.int 24 rfl⟩
theorem noat_all {C : Str} {fs : List Str} (h : ∀ f ∈ fs, (He.Fa.noat C f).ok K = true) : ∀ f ∈ fs, NoAttr K (He.ga K C) f := fun f hf => He.noat_ok (h f hf)
theorem EnvOk.OState (v : EnvOk w K mg h) : OwnC K (He.ga K "State") stNs := ⟨He.cls_ok (v.fa 25 rfl), fun f hf => by
  rcases List.mem_cons.mp hf with rfl | hf
  · exact He.noat_ok (v.fa 26 rfl)
  rcases List.mem_cons.mp hf with rfl | hf
  · exact He.noat_ok (v.fa 27 rfl)
  rcases List.mem_cons.mp hf with rfl | hf
  · exact He.noat_ok (v.fa 28 rfl)
  rcases List.mem_cons.mp hf with rfl | hf
  · exact He.noat_ok (v.fa 29 rfl)
  rcases List.mem_cons.mp hf with rfl | hf
  · exact He.noat_ok (v.fa 30 rfl)
  rcases List.mem_cons.mp hf with rfl | hf
  · exact He.noat_ok (v.fa 31 rfl)
  rcases List.mem_cons.mp hf with rfl | hf
  · exact He.noat_ok (v.fa 32 rfl)
  rcases List.mem_cons.mp hf with rfl | hf
  · exact He.noat_ok (v.fa 33 rfl)
  exact absurd hf List.not_mem_nil⟩
theorem EnvOk.OWeb (v : EnvOk w K mg h) : OwnC K (He.ga K "Web") webNs := ⟨He.cls_ok (v.fa 34 rfl), fun f hf => by
  rcases List.mem_cons.mp hf with rfl | hf
  · exact He.noat_ok (v.fa 35 rfl)
  rcases List.mem_cons.mp hf with rfl | hf
  · exact He.noat_ok (v.fa 36 rfl)
  exact absurd hf List.not_mem_nil⟩
theorem EnvOk.OProgram (v : EnvOk w K mg h) : OwnC K (He.ga K "Program") progNs := ⟨He.cls_ok (v.fa 37 rfl), fun f hf => by
  rcases List.mem_cons.mp hf with rfl | hf
  · exact He.noat_ok (v.fa 38 rfl)
  rcases List.mem_cons.mp hf with rfl | hf
  · exact He.noat_ok (v.fa 39 rfl)
  exact absurd hf List.not_mem_nil⟩
theorem EnvOk.OStanding (v : EnvOk w K mg h) : OwnC K (He.ga K "Standing") stdNs := ⟨He.cls_ok (v.fa 40 rfl), fun f hf => by
  rcases List.mem_cons.mp hf with rfl | hf
  · exact He.noat_ok (v.fa 41 rfl)
  rcases List.mem_cons.mp hf with rfl | hf
  · exact He.noat_ok (v.fa 42 rfl)
  rcases List.mem_cons.mp hf with rfl | hf
  · exact He.noat_ok (v.fa 43 rfl)
  rcases List.mem_cons.mp hf with rfl | hf
  · exact He.noat_ok (v.fa 44 rfl)
  exact absurd hf List.not_mem_nil⟩
theorem EnvOk.OSearch (v : EnvOk w K mg h) : OwnC K (He.ga K "Search") srchNs := ⟨He.cls_ok (v.fa 45 rfl), fun f hf => by
  rcases List.mem_cons.mp hf with rfl | hf
  · exact He.noat_ok (v.fa 46 rfl)
  rcases List.mem_cons.mp hf with rfl | hf
  · exact He.noat_ok (v.fa 47 rfl)
  rcases List.mem_cons.mp hf with rfl | hf
  · exact He.noat_ok (v.fa 48 rfl)
  exact absurd hf List.not_mem_nil⟩
theorem EnvOk.O (v : EnvOk w K mg h) : Own4 K (ccOf K) := ⟨v.OState, v.OWeb, v.OProgram, v.OStanding⟩
theorem j_law_hand (v : EnvOk w K mg h) : ∃ fd, GF P w K mg base "_law_hand" ps_law_hand 3 (sp_law_hand K) (He.ga K "_law_hand") fd := by
  obtain ⟨fd, D⟩ := v.c.d.def_ 0 (d := dD_law_hand) rfl
  have F : Fun K "_law_hand" "_law_hand" s_law_hand _ fd := fun_of D
  have b : Binds K fd ps_law_hand [] := F.binds (ps := ps_law_hand) fun _ _ _ _ _ _ us hl => match us, hl with | [_], _ => rfl
  exact ⟨fd, GF.mk (ok__law_hand F v.B) (v.glo 49 rfl) F.kp b⟩
theorem j_law_draw (v : EnvOk w K mg h) : ∃ fd, GF P w K mg base "_law_draw" ps_law_draw 3 sp_draw (He.ga K "_law_draw") fd := by
  obtain ⟨fd, D⟩ := v.c.d.def_ 1 (d := dD_law_draw) rfl
  have F : Fun K "_law_draw" "_law_draw" s_law_draw _ fd := fun_of D
  have b : Binds K fd ps_law_draw [] := F.binds (ps := ps_law_draw) fun _ _ _ _ _ _ us hl => match us, hl with | [_, _], _ => rfl
  exact ⟨fd, GF.mk (ok__law_draw F v.B) (v.glo 50 rfl) F.kp b⟩
theorem j_law_wires (v : EnvOk w K mg h) : ∃ fd, GF P w K mg base "_law_wires" ps_law_wires 4 sp_law_wires (He.ga K "_law_wires") fd := by
  obtain ⟨fd, D⟩ := v.c.d.def_ 2 (d := dD_law_wires) rfl
  have F : Fun K "_law_wires" "_law_wires" s_law_wires _ fd := fun_of D
  have b : Binds K fd ps_law_wires [] := F.binds (ps := ps_law_wires) fun _ _ _ _ _ _ us hl => match us, hl with | [_, _, _], _ => rfl
  obtain ⟨_, G_law_draw⟩ := j_law_draw (P := P) (base := base) v
  exact ⟨fd, GF.mk (ok__law_wires F v.B G_law_draw) (v.glo 51 rfl) F.kp b⟩
theorem j_law_row (v : EnvOk w K mg h) : ∃ fd, GF P w K mg base "_law_row" ps_law_row 4 sp_law_row (He.ga K "_law_row") fd := by
  obtain ⟨fd, D⟩ := v.c.d.def_ 3 (d := dD_law_row) rfl
  have F : Fun K "_law_row" "_law_row" s_law_row _ fd := fun_of D
  have b : Binds K fd ps_law_row [] := F.binds (ps := ps_law_row) fun _ _ _ _ _ _ us hl => match us, hl with | [_, _, _, _, _], _ => rfl
  obtain ⟨_, G_law_draw⟩ := j_law_draw (P := P) (base := base) v
  exact ⟨fd, GF.mk (ok__law_row F v.B G_law_draw) (v.glo 52 rfl) F.kp b⟩
theorem j_law_program (v : EnvOk w K mg h) : ∃ fd, GF P w K mg base "_law_program" ps_law_program 5 sp_law_program (He.ga K "_law_program") fd := by
  obtain ⟨fd, D⟩ := v.c.d.def_ 4 (d := dD_law_program) rfl
  have F : Fun K "_law_program" "_law_program" s_law_program _ fd := fun_of D
  have b : Binds K fd ps_law_program [] := F.binds (ps := ps_law_program) fun _ _ _ _ _ _ us hl => match us, hl with | [_, _, _], _ => rfl
  obtain ⟨_, G_law_draw⟩ := j_law_draw (P := P) (base := base) v
  obtain ⟨_, G_law_row⟩ := j_law_row (P := P) (base := base) v
  exact ⟨fd, GF.mk (ok__law_program F v.B G_law_draw G_law_row) (v.glo 53 rfl) F.kp b⟩
theorem j_law_small (v : EnvOk w K mg h) : ∃ fd, GF P w K mg base "_law_small" ps_law_small 6 sp_law_small (He.ga K "_law_small") fd := by
  obtain ⟨fd, D⟩ := v.c.d.def_ 5 (d := dD_law_small) rfl
  have F : Fun K "_law_small" "_law_small" s_law_small _ fd := fun_of D
  have b : Binds K fd ps_law_small [] := F.binds (ps := ps_law_small) fun _ _ _ _ _ _ us hl => match us, hl with | [_], _ => rfl
  obtain ⟨_, G_law_draw⟩ := j_law_draw (P := P) (base := base) v
  obtain ⟨_, G_law_wires⟩ := j_law_wires (P := P) (base := base) v
  obtain ⟨_, G_law_program⟩ := j_law_program (P := P) (base := base) v
  exact ⟨fd, GF.mk (ok__law_small F v.B G_law_draw G_law_wires G_law_program) (v.glo 54 rfl) F.kp b⟩
theorem j_is_integer (v : EnvOk w K mg h) : ∃ fd, GF P w K mg base "is_integer" ps_is_integer 3 sp_is_integer (He.ga K "is_integer") fd := by
  obtain ⟨fd, D⟩ := v.c.d.def_ 6 (d := dD_is_integer) rfl
  have F : Fun K "is_integer" "is_integer" s_is_integer _ fd := fun_of D
  have b : Binds K fd ps_is_integer [] := F.binds (ps := ps_is_integer) fun _ _ _ _ _ _ us hl => match us, hl with | [_], _ => rfl
  exact ⟨fd, GF.mk (ok_is_integer F v.B) (v.glo 55 rfl) F.kp b⟩
theorem j_is_within (v : EnvOk w K mg h) : ∃ fd, GF P w K mg base "is_within" ps_is_within 4 sp_is_within (He.ga K "is_within") fd := by
  obtain ⟨fd, D⟩ := v.c.d.def_ 7 (d := dD_is_within) rfl
  have F : Fun K "is_within" "is_within" s_is_within _ fd := fun_of D
  have b : Binds K fd ps_is_within [] := F.binds (ps := ps_is_within) fun _ _ _ _ _ _ us hl => match us, hl with | [_, _, _], _ => rfl
  obtain ⟨_, G_is_integer⟩ := j_is_integer (P := P) (base := base) v
  exact ⟨fd, GF.mk (ok_is_within F G_is_integer) (v.glo 56 rfl) F.kp b⟩
theorem j_is_pair (v : EnvOk w K mg h) : ∃ fd, GF P w K mg base "is_pair" ps_is_pair 3 sp_is_pair (He.ga K "is_pair") fd := by
  obtain ⟨fd, D⟩ := v.c.d.def_ 8 (d := dD_is_pair) rfl
  have F : Fun K "is_pair" "is_pair" s_is_pair _ fd := fun_of D
  have b : Binds K fd ps_is_pair [] := F.binds (ps := ps_is_pair) fun _ _ _ _ _ _ us hl => match us, hl with | [_], _ => rfl
  exact ⟨fd, GF.mk (ok_is_pair F v.B) (v.glo 57 rfl) F.kp b⟩
theorem j_is_wire_pair (v : EnvOk w K mg h) : ∃ fd, GF P w K mg base "is_wire_pair" ps_is_wire_pair 5 sp_is_wire_pair (He.ga K "is_wire_pair") fd := by
  obtain ⟨fd, D⟩ := v.c.d.def_ 9 (d := dD_is_wire_pair) rfl
  have F : Fun K "is_wire_pair" "is_wire_pair" s_is_wire_pair _ fd := fun_of D
  have b : Binds K fd ps_is_wire_pair [] := F.binds (ps := ps_is_wire_pair) fun _ _ _ _ _ _ us hl => match us, hl with | [_, _], _ => rfl
  obtain ⟨_, G_is_pair⟩ := j_is_pair (P := P) (base := base) v
  obtain ⟨_, G_is_within⟩ := j_is_within (P := P) (base := base) v
  exact ⟨fd, GF.mk (ok_is_wire_pair F v.B G_is_pair G_is_within) (v.glo 58 rfl) F.kp b⟩
theorem j_Web_keep (v : EnvOk w K mg h) : ∃ fd, GM P w K mg base (He.ga K "Web") "keep" ps_Web_keep 3 (sp_Web_keep (ccOf K)) (He.ma K (He.ga K "Web") "keep") fd := by
  obtain ⟨fd, D⟩ := v.c.d.def_ 10 (d := dD_Web_keep) rfl
  have F : Fun K "keep" "Web.keep" s_Web_keep _ fd := fun_of D
  have b : Binds K fd ps_Web_keep [] := F.binds (ps := ps_Web_keep) fun _ _ _ _ _ _ us hl => match us, hl with | [_, _, _], _ => rfl
  exact ⟨fd, GM.mk (ok_Web_keep (c := ccOf K) F v.O) (He.meth_ok (v.fa 59 rfl)) (He.cls_ok (v.fa 34 rfl)) b⟩
theorem j_Web_init (v : EnvOk w K mg h) : ∃ fd, GK P w K mg base "Web" (He.ga K "Web") ps_Web_init 6 (sp_Web_init (ccOf K)) (He.ma K (He.ga K "Web") "__init__") fd := by
  obtain ⟨fd, D⟩ := v.c.d.def_ 11 (d := dD_Web_init) rfl
  have F : Fun K "__init__" "Web.__init__" s_Web_init _ fd := fun_of D
  have b : Binds K fd ps_Web_init [] := F.binds (ps := ps_Web_init) fun _ _ _ _ _ _ us hl => match us, hl with | [_, _, _], _ => rfl
  obtain ⟨_, G_is_within⟩ := j_is_within (P := P) (base := base) v
  obtain ⟨_, G_is_wire_pair⟩ := j_is_wire_pair (P := P) (base := base) v
  obtain ⟨_, M_Web_keep⟩ := j_Web_keep (P := P) (base := base) v
  exact ⟨fd, GK.mk (ok_Web_init (c := ccOf K) F v.B v.M v.O G_is_within G_is_wire_pair M_Web_keep) (He.mkr_ok (v.fa 60 rfl)) (v.glo 61 rfl) b⟩
theorem j_is_sized (v : EnvOk w K mg h) : ∃ fd, GF P w K mg base "is_sized" ps_is_sized 3 sp_is_sized (He.ga K "is_sized") fd := by
  obtain ⟨fd, D⟩ := v.c.d.def_ 12 (d := dD_is_sized) rfl
  have F : Fun K "is_sized" "is_sized" s_is_sized _ fd := fun_of D
  have b : Binds K fd ps_is_sized [] := F.binds (ps := ps_is_sized) fun _ _ _ _ _ _ us hl => match us, hl with | [_, _, _], _ => rfl
  exact ⟨fd, GF.mk (ok_is_sized F v.B) (v.glo 62 rfl) F.kp b⟩
theorem j_is_row (v : EnvOk w K mg h) : ∃ fd, GF P w K mg base "is_row" ps_is_row 3 sp_is_row (He.ga K "is_row") fd := by
  obtain ⟨fd, D⟩ := v.c.d.def_ 13 (d := dD_is_row) rfl
  have F : Fun K "is_row" "is_row" s_is_row _ fd := fun_of D
  have b : Binds K fd ps_is_row [] := F.binds (ps := ps_is_row) fun _ _ _ _ _ _ us hl => match us, hl with | [_, _], _ => rfl
  exact ⟨fd, GF.mk (ok_is_row F v.B) (v.glo 63 rfl) F.kp b⟩
theorem j_is_part (v : EnvOk w K mg h) : ∃ fd, GF P w K mg base "is_part" ps_is_part 5 sp_is_part (He.ga K "is_part") fd := by
  obtain ⟨fd, D⟩ := v.c.d.def_ 14 (d := dD_is_part) rfl
  have F : Fun K "is_part" "is_part" s_is_part _ fd := fun_of D
  have b : Binds K fd ps_is_part [] := F.binds (ps := ps_is_part) fun _ _ _ _ _ _ us hl => match us, hl with | [_, _, _, _, _], _ => rfl
  obtain ⟨_, G_is_within⟩ := j_is_within (P := P) (base := base) v
  exact ⟨fd, GF.mk (ok_is_part F v.B v.M G_is_within) (v.glo 64 rfl) F.kp b⟩
theorem j_is_row_of (v : EnvOk w K mg h) : ∃ fd, GF P w K mg base "is_row_of" ps_is_row_of 6 sp_is_row_of (He.ga K "is_row_of") fd := by
  obtain ⟨fd, D⟩ := v.c.d.def_ 15 (d := dD_is_row_of) rfl
  have F : Fun K "is_row_of" "is_row_of" s_is_row_of _ fd := fun_of D
  have b : Binds K fd ps_is_row_of [] := F.binds (ps := ps_is_row_of) fun _ _ _ _ _ _ us hl => match us, hl with | [_, _, _, _], _ => rfl
  obtain ⟨_, G_is_row⟩ := j_is_row (P := P) (base := base) v
  obtain ⟨_, G_is_part⟩ := j_is_part (P := P) (base := base) v
  exact ⟨fd, GF.mk (ok_is_row_of F v.B v.forms G_is_row G_is_part) (v.glo 65 rfl) F.kp b⟩
theorem j_Program_keep (v : EnvOk w K mg h) : ∃ fd, GM P w K mg base (He.ga K "Program") "keep" ps_Program_keep 3 (sp_Program_keep (ccOf K)) (He.ma K (He.ga K "Program") "keep") fd := by
  obtain ⟨fd, D⟩ := v.c.d.def_ 16 (d := dD_Program_keep) rfl
  have F : Fun K "keep" "Program.keep" s_Program_keep _ fd := fun_of D
  have b : Binds K fd ps_Program_keep [] := F.binds (ps := ps_Program_keep) fun _ _ _ _ _ _ us hl => match us, hl with | [_, _, _], _ => rfl
  exact ⟨fd, GM.mk (ok_Program_keep (c := ccOf K) F v.O) (He.meth_ok (v.fa 66 rfl)) (He.cls_ok (v.fa 37 rfl)) b⟩
theorem j_Program_init (v : EnvOk w K mg h) : ∃ fd, GK P w K mg base "Program" (He.ga K "Program") ps_Program_init 7 (sp_Program_init (ccOf K)) (He.ma K (He.ga K "Program") "__init__") fd := by
  obtain ⟨fd, D⟩ := v.c.d.def_ 17 (d := dD_Program_init) rfl
  have F : Fun K "__init__" "Program.__init__" s_Program_init _ fd := fun_of D
  have b : Binds K fd ps_Program_init [] := F.binds (ps := ps_Program_init) fun _ _ _ _ _ _ us hl => match us, hl with | [_, _, _], _ => rfl
  obtain ⟨_, G_is_sized⟩ := j_is_sized (P := P) (base := base) v
  obtain ⟨_, G_is_within⟩ := j_is_within (P := P) (base := base) v
  obtain ⟨_, G_is_row_of⟩ := j_is_row_of (P := P) (base := base) v
  obtain ⟨_, M_Program_keep⟩ := j_Program_keep (P := P) (base := base) v
  exact ⟨fd, GK.mk (ok_Program_init (c := ccOf K) F v.B v.M G_is_sized G_is_within G_is_row_of M_Program_keep) (He.mkr_ok (v.fa 67 rfl)) (v.glo 68 rfl) b⟩
theorem j_law_first (v : EnvOk w K mg h) : ∃ fd, GF P w K mg base "_law_first" ps_law_first 3 sp_law_first (He.ga K "_law_first") fd := by
  obtain ⟨fd, D⟩ := v.c.d.def_ 18 (d := dD_law_first) rfl
  have F : Fun K "_law_first" "_law_first" s_law_first _ fd := fun_of D
  have b : Binds K fd ps_law_first [] := F.binds (ps := ps_law_first) fun _ _ _ _ _ _ us hl => match us, hl with | [_, _, _], _ => rfl
  exact ⟨fd, GF.mk (ok__law_first F v.B) (v.glo 69 rfl) F.kp b⟩
theorem j_law_runs (v : EnvOk w K mg h) : ∃ fd, GF P w K mg base "_law_runs" ps_law_runs 3 sp_law_runs (He.ga K "_law_runs") fd := by
  obtain ⟨fd, D⟩ := v.c.d.def_ 19 (d := dD_law_runs) rfl
  have F : Fun K "_law_runs" "_law_runs" s_law_runs _ fd := fun_of D
  have b : Binds K fd ps_law_runs [] := F.binds (ps := ps_law_runs) fun _ _ _ _ _ _ us hl => match us, hl with | [_, _, _], _ => rfl
  exact ⟨fd, GF.mk (ok__law_runs F v.B) (v.glo 70 rfl) F.kp b⟩
theorem j_law_can (v : EnvOk w K mg h) : ∃ fd, GF P w K mg base "_law_can" ps_law_can 4 sp_law_can (He.ga K "_law_can") fd := by
  obtain ⟨fd, D⟩ := v.c.d.def_ 20 (d := dD_law_can) rfl
  have F : Fun K "_law_can" "_law_can" s_law_can _ fd := fun_of D
  have b : Binds K fd ps_law_can [] := F.binds (ps := ps_law_can) fun _ _ _ _ _ _ us hl => match us, hl with | [_, _, _], _ => rfl
  obtain ⟨_, G_law_runs⟩ := j_law_runs (P := P) (base := base) v
  exact ⟨fd, GF.mk (ok__law_can F v.B G_law_runs) (v.glo 71 rfl) F.kp b⟩
theorem j_law_sum (v : EnvOk w K mg h) : ∃ fd, GF P w K mg base "_law_sum" ps_law_sum 3 sp_law_sum (He.ga K "_law_sum") fd := by
  obtain ⟨fd, D⟩ := v.c.d.def_ 21 (d := dD_law_sum) rfl
  have F : Fun K "_law_sum" "_law_sum" s_law_sum _ fd := fun_of D
  have b : Binds K fd ps_law_sum [] := F.binds (ps := ps_law_sum) fun _ _ _ _ _ _ us hl => match us, hl with | [_, _], _ => rfl
  exact ⟨fd, GF.mk (ok__law_sum F) (v.glo 72 rfl) F.kp b⟩
theorem j_law_set (v : EnvOk w K mg h) : ∃ fd, GF P w K mg base "_law_set" ps_law_set 3 sp_set (He.ga K "_law_set") fd := by
  obtain ⟨fd, D⟩ := v.c.d.def_ 22 (d := dD_law_set) rfl
  have F : Fun K "_law_set" "_law_set" s_law_set _ fd := fun_of D
  have b : Binds K fd ps_law_set [] := F.binds (ps := ps_law_set) fun _ _ _ _ _ _ us hl => match us, hl with | [_, _, _], _ => rfl
  exact ⟨fd, GF.mk (ok__law_set F) (v.glo 73 rfl) F.kp b⟩
theorem j_law_after (v : EnvOk w K mg h) : ∃ fd, GF P w K mg base "_law_after" ps_law_after 4 sp_law_after (He.ga K "_law_after") fd := by
  obtain ⟨fd, D⟩ := v.c.d.def_ 23 (d := dD_law_after) rfl
  have F : Fun K "_law_after" "_law_after" s_law_after _ fd := fun_of D
  have b : Binds K fd ps_law_after [] := F.binds (ps := ps_law_after) fun _ _ _ _ _ _ us hl => match us, hl with | [_, _], _ => rfl
  obtain ⟨_, G_law_sum⟩ := j_law_sum (P := P) (base := base) v
  obtain ⟨_, G_law_set⟩ := j_law_set (P := P) (base := base) v
  exact ⟨fd, GF.mk (ok__law_after F v.B G_law_sum G_law_set) (v.glo 74 rfl) F.kp b⟩
theorem j_law_sent (v : EnvOk w K mg h) : ∃ fd, GF P w K mg base "_law_sent" ps_law_sent 3 sp_law_sent (He.ga K "_law_sent") fd := by
  obtain ⟨fd, D⟩ := v.c.d.def_ 24 (d := dD_law_sent) rfl
  have F : Fun K "_law_sent" "_law_sent" s_law_sent _ fd := fun_of D
  have b : Binds K fd ps_law_sent [] := F.binds (ps := ps_law_sent) fun _ _ _ _ _ _ us hl => match us, hl with | [_, _, _, _], _ => rfl
  exact ⟨fd, GF.mk (ok__law_sent F v.B) (v.glo 75 rfl) F.kp b⟩
theorem j_law_noted (v : EnvOk w K mg h) : ∃ fd, GF P w K mg base "_law_noted" ps_law_noted 4 sp_law_noted (He.ga K "_law_noted") fd := by
  obtain ⟨fd, D⟩ := v.c.d.def_ 25 (d := dD_law_noted) rfl
  have F : Fun K "_law_noted" "_law_noted" s_law_noted _ fd := fun_of D
  have b : Binds K fd ps_law_noted [] := F.binds (ps := ps_law_noted) fun _ _ _ _ _ _ us hl => match us, hl with | [_, _], _ => rfl
  obtain ⟨_, G_law_set⟩ := j_law_set (P := P) (base := base) v
  exact ⟨fd, GF.mk (ok__law_noted F G_law_set) (v.glo 76 rfl) F.kp b⟩
theorem j_law_behind (v : EnvOk w K mg h) : ∃ fd, GF P w K mg base "_law_behind" ps_law_behind 5 sp_law_behind (He.ga K "_law_behind") fd := by
  obtain ⟨fd, D⟩ := v.c.d.def_ 26 (d := dD_law_behind) rfl
  have F : Fun K "_law_behind" "_law_behind" s_law_behind _ fd := fun_of D
  have b : Binds K fd ps_law_behind [] := F.binds (ps := ps_law_behind) fun _ _ _ _ _ _ us hl => match us, hl with | [_, _, _, _], _ => rfl
  obtain ⟨_, G_law_after⟩ := j_law_after (P := P) (base := base) v
  obtain ⟨_, G_law_set⟩ := j_law_set (P := P) (base := base) v
  obtain ⟨_, G_law_sent⟩ := j_law_sent (P := P) (base := base) v
  obtain ⟨_, G_law_noted⟩ := j_law_noted (P := P) (base := base) v
  exact ⟨fd, GF.mk (ok__law_behind F v.B G_law_after G_law_set G_law_sent G_law_noted) (v.glo 77 rfl) F.kp b⟩
theorem j_law_all (v : EnvOk w K mg h) : ∃ fd, GF P w K mg base "_law_all" ps_law_all 6 sp_law_all (He.ga K "_law_all") fd := by
  obtain ⟨fd, D⟩ := v.c.d.def_ 27 (d := dD_law_all) rfl
  have F : Fun K "_law_all" "_law_all" s_law_all _ fd := fun_of D
  have b : Binds K fd ps_law_all [] := F.binds (ps := ps_law_all) fun _ _ _ _ _ _ us hl => match us, hl with | [_, _, _, _], _ => rfl
  obtain ⟨_, G_law_first⟩ := j_law_first (P := P) (base := base) v
  obtain ⟨_, G_law_can⟩ := j_law_can (P := P) (base := base) v
  obtain ⟨_, G_law_behind⟩ := j_law_behind (P := P) (base := base) v
  exact ⟨fd, GF.mk (ok__law_all F v.B G_law_first G_law_can G_law_behind) (v.glo 78 rfl) F.kp b⟩
theorem j_law_ended (v : EnvOk w K mg h) : ∃ fd, GF P w K mg base "_law_ended" ps_law_ended 3 sp_law_ended (He.ga K "_law_ended") fd := by
  obtain ⟨fd, D⟩ := v.c.d.def_ 28 (d := dD_law_ended) rfl
  have F : Fun K "_law_ended" "_law_ended" s_law_ended _ fd := fun_of D
  have b : Binds K fd ps_law_ended [] := F.binds (ps := ps_law_ended) fun _ _ _ _ _ _ us hl => match us, hl with | [_, _], _ => rfl
  exact ⟨fd, GF.mk (ok__law_ended F v.B) (v.glo 79 rfl) F.kp b⟩
theorem j_law_ends (v : EnvOk w K mg h) : ∃ fd, GF P w K mg base "_law_ends" ps_law_ends 4 sp_law_ends (He.ga K "_law_ends") fd := by
  obtain ⟨fd, D⟩ := v.c.d.def_ 29 (d := dD_law_ends) rfl
  have F : Fun K "_law_ends" "_law_ends" s_law_ends _ fd := fun_of D
  have b : Binds K fd ps_law_ends [] := F.binds (ps := ps_law_ends) fun _ _ _ _ _ _ us hl => match us, hl with | [_, _], _ => rfl
  obtain ⟨_, G_law_ended⟩ := j_law_ended (P := P) (base := base) v
  exact ⟨fd, GF.mk (ok__law_ends F v.B G_law_ended) (v.glo 80 rfl) F.kp b⟩
theorem j_check_program (v : EnvOk w K mg h) : ∃ fd, GF P w K mg base "check_program" ps_check_program 3 (sp_check_program (ccOf K)) (He.ga K "check_program") fd := by
  obtain ⟨fd, D⟩ := v.c.d.def_ 30 (d := dD_check_program) rfl
  have F : Fun K "check_program" "check_program" s_check_program _ fd := fun_of D
  have b : Binds K fd ps_check_program [] := F.binds (ps := ps_check_program) fun _ _ _ _ _ _ us hl => match us, hl with | [_, _], _ => rfl
  exact ⟨fd, GF.mk (ok_check_program (c := ccOf K) F v.B v.O) (v.glo 81 rfl) F.kp b⟩
theorem j_Standing_key (v : EnvOk w K mg h) : ∃ fd, GM P w K mg base (He.ga K "Standing") "key" ps_Standing_key 3 (sp_key (ccOf K)) (He.ma K (He.ga K "Standing") "key") fd := by
  obtain ⟨fd, D⟩ := v.c.d.def_ 31 (d := dD_Standing_key) rfl
  have F : Fun K "key" "Standing.key" s_Standing_key _ fd := fun_of D
  have b : Binds K fd ps_Standing_key [] := F.binds (ps := ps_Standing_key) fun _ _ _ _ _ _ us hl => match us, hl with | [_], _ => rfl
  exact ⟨fd, GM.mk (ok_key (c := ccOf K) F v.B v.O) (He.meth_ok (v.fa 82 rfl)) (He.cls_ok (v.fa 40 rfl)) b⟩
theorem j_Standing_is_everywhere (v : EnvOk w K mg h) : ∃ fd, GM P w K mg base (He.ga K "Standing") "is_everywhere" ps_Standing_is_everywhere 3 (sp_is_everywhere (ccOf K)) (He.ma K (He.ga K "Standing") "is_everywhere") fd := by
  obtain ⟨fd, D⟩ := v.c.d.def_ 32 (d := dD_Standing_is_everywhere) rfl
  have F : Fun K "is_everywhere" "Standing.is_everywhere" s_Standing_is_everywhere _ fd := fun_of D
  have b : Binds K fd ps_Standing_is_everywhere [] := F.binds (ps := ps_Standing_is_everywhere) fun _ _ _ _ _ _ us hl => match us, hl with | [_, _], _ => rfl
  exact ⟨fd, GM.mk (ok_is_everywhere (c := ccOf K) F v.B v.O) (He.meth_ok (v.fa 83 rfl)) (He.cls_ok (v.fa 40 rfl)) b⟩
theorem j_word_of (v : EnvOk w K mg h) : ∃ fd, GF P w K mg base "word_of" ps_word_of 3 (sp_word_of (He.ga K "State")) (He.ga K "word_of") fd := by
  obtain ⟨fd, D⟩ := v.c.d.def_ 33 (d := dD_word_of) rfl
  have F : Fun K "word_of" "word_of" s_word_of _ fd := fun_of D
  have b : Binds K fd ps_word_of [] := F.binds (ps := ps_word_of) fun _ _ _ _ _ _ us hl => match us, hl with | [_, _, _], _ => rfl
  exact ⟨fd, GF.mk (ok_word_of F v.B v.OState) (v.glo 84 rfl) F.kp b⟩
theorem j_Standing_word (v : EnvOk w K mg h) : ∃ fd, GM P w K mg base (He.ga K "Standing") "word" ps_Standing_word 4 (sp_word (ccOf K)) (He.ma K (He.ga K "Standing") "word") fd := by
  obtain ⟨fd, D⟩ := v.c.d.def_ 34 (d := dD_Standing_word) rfl
  have F : Fun K "word" "Standing.word" s_Standing_word _ fd := fun_of D
  have b : Binds K fd ps_Standing_word [] := F.binds (ps := ps_Standing_word) fun _ _ _ _ _ _ us hl => match us, hl with | [_, _], _ => rfl
  obtain ⟨_, M_Standing_is_everywhere⟩ := j_Standing_is_everywhere (P := P) (base := base) v
  obtain ⟨_, G_word_of⟩ := j_word_of (P := P) (base := base) v
  exact ⟨fd, GM.mk (ok_word (c := ccOf K) F v.B v.O M_Standing_is_everywhere G_word_of) (He.meth_ok (v.fa 85 rfl)) (He.cls_ok (v.fa 40 rfl)) b⟩
theorem j_Standing_can (v : EnvOk w K mg h) : ∃ fd, GM P w K mg base (He.ga K "Standing") "can" ps_Standing_can 5 (sp_can (ccOf K)) (He.ma K (He.ga K "Standing") "can") fd := by
  obtain ⟨fd, D⟩ := v.c.d.def_ 35 (d := dD_Standing_can) rfl
  have F : Fun K "can" "Standing.can" s_Standing_can _ fd := fun_of D
  have b : Binds K fd ps_Standing_can [] := F.binds (ps := ps_Standing_can) fun _ _ _ _ _ _ us hl => match us, hl with | [_], _ => rfl
  obtain ⟨_, M_Standing_word⟩ := j_Standing_word (P := P) (base := base) v
  exact ⟨fd, GM.mk (ok_can (c := ccOf K) F v.B v.O M_Standing_word) (He.meth_ok (v.fa 86 rfl)) (He.cls_ok (v.fa 40 rfl)) b⟩
theorem j_check_many (v : EnvOk w K mg h) : ∃ fd, GF P w K mg base "check_many" ps_check_many 3 sp_check_many (He.ga K "check_many") fd := by
  obtain ⟨fd, D⟩ := v.c.d.def_ 36 (d := dD_check_many) rfl
  have F : Fun K "check_many" "check_many" s_check_many _ fd := fun_of D
  have b : Binds K fd ps_check_many [] := F.binds (ps := ps_check_many) fun _ _ _ _ _ _ us hl => match us, hl with | [_, _], _ => rfl
  exact ⟨fd, GF.mk (ok_check_many F) (v.glo 87 rfl) F.kp b⟩
theorem j_Search_add (v : EnvOk w K mg h) : ∃ fd, GM P w K mg base (He.ga K "Search") "add" ps_Search_add 4 (sp_add P w (ccOf K)) (He.ma K (He.ga K "Search") "add") fd := by
  obtain ⟨fd, D⟩ := v.c.d.def_ 37 (d := dD_Search_add) rfl
  have F : Fun K "add" "Search.add" s_Search_add _ fd := fun_of D
  have b : Binds K fd ps_Search_add [] := F.binds (ps := ps_Search_add) fun _ _ _ _ _ _ us hl => match us, hl with | [_, _, _, _], _ => rfl
  obtain ⟨_, M_Standing_key⟩ := j_Standing_key (P := P) (base := base) v
  obtain ⟨_, G_check_many⟩ := j_check_many (P := P) (base := base) v
  exact ⟨fd, GM.mk (ok_add (c := ccOf K) F v.B v.M v.OSearch M_Standing_key G_check_many) (He.meth_ok (v.fa 88 rfl)) (He.cls_ok (v.fa 45 rfl)) b⟩
theorem j_State_init (v : EnvOk w K mg h) : ∃ fd, GK P w K mg base "State" (He.ga K "State") ps_State_init 3 (sp_State_init (He.ga K "State")) (He.ma K (He.ga K "State") "__init__") fd := by
  obtain ⟨fd, D⟩ := v.c.d.def_ 38 (d := dD_State_init) rfl
  have F : Fun K "__init__" "State.__init__" s_State_init _ fd := fun_of D
  have b : Binds K fd ps_State_init [] := F.binds (ps := ps_State_init) fun _ _ _ _ _ _ us hl => match us, hl with | [_, _, _], _ => rfl
  exact ⟨fd, GK.mk (ok_State_init F v.M v.OState) (He.mkr_ok (v.fa 89 rfl)) (v.glo 90 rfl) b⟩
theorem j_State_copied (v : EnvOk w K mg h) : ∃ fd, GM P w K mg base (He.ga K "State") "copied" ps_State_copied 5 (sp_copied (He.ga K "State")) (He.ma K (He.ga K "State") "copied") fd := by
  obtain ⟨fd, D⟩ := v.c.d.def_ 39 (d := dD_State_copied) rfl
  have F : Fun K "copied" "State.copied" s_State_copied _ fd := fun_of D
  have b : Binds K fd ps_State_copied [] := F.binds (ps := ps_State_copied) fun _ _ _ _ _ _ us hl => match us, hl with | [_], _ => rfl
  obtain ⟨_, C_State⟩ := j_State_init (P := P) (base := base) v
  exact ⟨fd, GM.mk (ok_copied F v.B C_State v.OState) (He.meth_ok (v.fa 91 rfl)) (He.cls_ok (v.fa 25 rfl)) b⟩
theorem j_number_by (v : EnvOk w K mg h) : ∃ fd, GF P w K mg base "number_by" ps_number_by 3 (sp_number_by (He.ga K "State")) (He.ga K "number_by") fd := by
  obtain ⟨fd, D⟩ := v.c.d.def_ 40 (d := dD_number_by) rfl
  have F : Fun K "number_by" "number_by" s_number_by _ fd := fun_of D
  have b : Binds K fd ps_number_by [] := F.binds (ps := ps_number_by) fun _ _ _ _ _ _ us hl => match us, hl with | [_, _], _ => rfl
  exact ⟨fd, GF.mk (ok_number_by F v.OState) (v.glo 92 rfl) F.kp b⟩
theorem j_at_fault (v : EnvOk w K mg h) : ∃ fd, GF P w K mg base "at_fault" ps_at_fault 6 (sp_at_fault (He.ga K "State")) (He.ga K "at_fault") fd := by
  obtain ⟨fd, D⟩ := v.c.d.def_ 41 (d := dD_at_fault) rfl
  have F : Fun K "at_fault" "at_fault" s_at_fault _ fd := fun_of D
  have b : Binds K fd ps_at_fault [] := F.binds (ps := ps_at_fault) fun _ _ _ _ _ _ us hl => match us, hl with | [_], _ => rfl
  obtain ⟨_, M_State_copied⟩ := j_State_copied (P := P) (base := base) v
  exact ⟨fd, GF.mk (ok_at_fault F M_State_copied v.OState) (v.glo 93 rfl) F.kp b⟩
theorem j_with_item (v : EnvOk w K mg h) : ∃ fd, GF P w K mg base "with_item" ps_with_item 3 sp_set (He.ga K "with_item") fd := by
  obtain ⟨fd, D⟩ := v.c.d.def_ 42 (d := dD_with_item) rfl
  have F : Fun K "with_item" "with_item" s_with_item _ fd := fun_of D
  have b : Binds K fd ps_with_item [] := F.binds (ps := ps_with_item) fun _ _ _ _ _ _ us hl => match us, hl with | [_, _, _], _ => rfl
  exact ⟨fd, GF.mk (ok_with_item F) (v.glo 94 rfl) F.kp b⟩
theorem j_goes (v : EnvOk w K mg h) : ∃ fd, GF P w K mg base "goes" ps_goes 3 (sp_goes (He.ga K "State")) (He.ga K "goes") fd := by
  obtain ⟨fd, D⟩ := v.c.d.def_ 43 (d := dD_goes) rfl
  have F : Fun K "goes" "goes" s_goes _ fd := fun_of D
  have b : Binds K fd ps_goes [] := F.binds (ps := ps_goes) fun _ _ _ _ _ _ us hl => match us, hl with | [_, _], _ => rfl
  exact ⟨fd, GF.mk (ok_goes F v.OState) (v.glo 95 rfl) F.kp b⟩
theorem j_after_row (v : EnvOk w K mg h) : ∃ fd, GF P w K mg base "after_row" ps_after_row 7 (sp_after_row (He.ga K "State")) (He.ga K "after_row") fd := by
  obtain ⟨fd, D⟩ := v.c.d.def_ 44 (d := dD_after_row) rfl
  have F : Fun K "after_row" "after_row" s_after_row _ fd := fun_of D
  have b : Binds K fd ps_after_row [] := F.binds (ps := ps_after_row) fun _ _ _ _ _ _ us hl => match us, hl with | [_, _], _ => rfl
  obtain ⟨_, M_State_copied⟩ := j_State_copied (P := P) (base := base) v
  obtain ⟨_, G_number_by⟩ := j_number_by (P := P) (base := base) v
  obtain ⟨_, G_at_fault⟩ := j_at_fault (P := P) (base := base) v
  obtain ⟨_, G_with_item⟩ := j_with_item (P := P) (base := base) v
  obtain ⟨_, G_goes⟩ := j_goes (P := P) (base := base) v
  exact ⟨fd, GF.mk (ok_after_row F v.B v.M M_State_copied G_number_by G_at_fault G_with_item G_goes v.OState) (v.glo 96 rfl) F.kp b⟩
theorem j_written (v : EnvOk w K mg h) : ∃ fd, GF P w K mg base "written" ps_written 6 (sp_written (He.ga K "State")) (He.ga K "written") fd := by
  obtain ⟨fd, D⟩ := v.c.d.def_ 45 (d := dD_written) rfl
  have F : Fun K "written" "written" s_written _ fd := fun_of D
  have b : Binds K fd ps_written [] := F.binds (ps := ps_written) fun _ _ _ _ _ _ us hl => match us, hl with | [_, _, _, _], _ => rfl
  obtain ⟨_, M_State_copied⟩ := j_State_copied (P := P) (base := base) v
  obtain ⟨_, G_with_item⟩ := j_with_item (P := P) (base := base) v
  exact ⟨fd, GF.mk (ok_written F M_State_copied G_with_item v.OState) (v.glo 97 rfl) F.kp b⟩
theorem j_Standing_init (v : EnvOk w K mg h) : ∃ fd, GK P w K mg base "Standing" (He.ga K "Standing") ps_Standing_init 3 (sp_Standing_init (ccOf K)) (He.ma K (He.ga K "Standing") "__init__") fd := by
  obtain ⟨fd, D⟩ := v.c.d.def_ 46 (d := dD_Standing_init) rfl
  have F : Fun K "__init__" "Standing.__init__" s_Standing_init _ fd := fun_of D
  have b : Binds K fd ps_Standing_init [] := F.binds (ps := ps_Standing_init) fun _ _ _ _ _ _ us hl => match us, hl with | [_, _, _, _, _], _ => rfl
  exact ⟨fd, GK.mk (ok_Standing_init (c := ccOf K) F v.O) (He.mkr_ok (v.fa 98 rfl)) (v.glo 99 rfl) b⟩
theorem j_Standing_with_state (v : EnvOk w K mg h) : ∃ fd, GM P w K mg base (He.ga K "Standing") "with_state" ps_Standing_with_state 5 (sp_with_state (ccOf K)) (He.ma K (He.ga K "Standing") "with_state") fd := by
  obtain ⟨fd, D⟩ := v.c.d.def_ 47 (d := dD_Standing_with_state) rfl
  have F : Fun K "with_state" "Standing.with_state" s_Standing_with_state _ fd := fun_of D
  have b : Binds K fd ps_Standing_with_state [] := F.binds (ps := ps_Standing_with_state) fun _ _ _ _ _ _ us hl => match us, hl with | [_, _, _, _], _ => rfl
  obtain ⟨_, G_with_item⟩ := j_with_item (P := P) (base := base) v
  obtain ⟨_, C_Standing⟩ := j_Standing_init (P := P) (base := base) v
  exact ⟨fd, GM.mk (ok_with_state (c := ccOf K) F v.B v.O G_with_item C_Standing) (He.meth_ok (v.fa 100 rfl)) (He.cls_ok (v.fa 40 rfl)) b⟩
theorem j_Standing_done (v : EnvOk w K mg h) : ∃ fd, GM P w K mg base (He.ga K "Standing") "done" ps_Standing_done 8 (sp_done (ccOf K)) (He.ma K (He.ga K "Standing") "done") fd := by
  obtain ⟨fd, D⟩ := v.c.d.def_ 48 (d := dD_Standing_done) rfl
  have F : Fun K "done" "Standing.done" s_Standing_done _ fd := fun_of D
  have b : Binds K fd ps_Standing_done [] := F.binds (ps := ps_Standing_done) fun _ _ _ _ _ _ us hl => match us, hl with | [_, _], _ => rfl
  obtain ⟨_, G_after_row⟩ := j_after_row (P := P) (base := base) v
  obtain ⟨_, G_written⟩ := j_written (P := P) (base := base) v
  obtain ⟨_, M_Standing_with_state⟩ := j_Standing_with_state (P := P) (base := base) v
  exact ⟨fd, GM.mk (ok_done (c := ccOf K) F v.B v.O G_after_row G_written M_Standing_with_state) (He.meth_ok (v.fa 101 rfl)) (He.cls_ok (v.fa 40 rfl)) b⟩
theorem j_Standing_came (v : EnvOk w K mg h) : ∃ fd, GM P w K mg base (He.ga K "Standing") "came" ps_Standing_came 7 (sp_came (ccOf K)) (He.ma K (He.ga K "Standing") "came") fd := by
  obtain ⟨fd, D⟩ := v.c.d.def_ 49 (d := dD_Standing_came) rfl
  have F : Fun K "came" "Standing.came" s_Standing_came _ fd := fun_of D
  have b : Binds K fd ps_Standing_came [] := F.binds (ps := ps_Standing_came) fun _ _ _ _ _ _ us hl => match us, hl with | [_, _], _ => rfl
  obtain ⟨_, G_with_item⟩ := j_with_item (P := P) (base := base) v
  obtain ⟨_, C_Standing⟩ := j_Standing_init (P := P) (base := base) v
  obtain ⟨_, G_written⟩ := j_written (P := P) (base := base) v
  obtain ⟨_, M_Standing_with_state⟩ := j_Standing_with_state (P := P) (base := base) v
  exact ⟨fd, GM.mk (ok_came (c := ccOf K) F v.B v.O G_with_item C_Standing G_written M_Standing_with_state) (He.meth_ok (v.fa 102 rfl)) (He.cls_ok (v.fa 40 rfl)) b⟩
theorem j_Standing_behind (v : EnvOk w K mg h) : ∃ fd, GM P w K mg base (He.ga K "Standing") "behind" ps_Standing_behind 9 (sp_behind (ccOf K)) (He.ma K (He.ga K "Standing") "behind") fd := by
  obtain ⟨fd, D⟩ := v.c.d.def_ 50 (d := dD_Standing_behind) rfl
  have F : Fun K "behind" "Standing.behind" s_Standing_behind _ fd := fun_of D
  have b : Binds K fd ps_Standing_behind [] := F.binds (ps := ps_Standing_behind) fun _ _ _ _ _ _ us hl => match us, hl with | [_, _], _ => rfl
  obtain ⟨_, M_Standing_done⟩ := j_Standing_done (P := P) (base := base) v
  obtain ⟨_, M_Standing_came⟩ := j_Standing_came (P := P) (base := base) v
  exact ⟨fd, GM.mk (ok_behind (c := ccOf K) F M_Standing_done M_Standing_came) (He.meth_ok (v.fa 103 rfl)) (He.cls_ok (v.fa 40 rfl)) b⟩
theorem j_Search_init (v : EnvOk w K mg h) : ∃ fd, GK P w K mg base "Search" (He.ga K "Search") ps_Search_init 10 (sp_Search_init P w (ccOf K)) (He.ma K (He.ga K "Search") "__init__") fd := by
  obtain ⟨fd, D⟩ := v.c.d.def_ 51 (d := dD_Search_init) rfl
  have F : Fun K "__init__" "Search.__init__" s_Search_init _ fd := fun_of D
  have b : Binds K fd ps_Search_init [] := F.binds (ps := ps_Search_init) fun _ _ _ _ _ _ us hl => match us, hl with | [_, _], _ => rfl
  obtain ⟨_, M_Standing_key⟩ := j_Standing_key (P := P) (base := base) v
  obtain ⟨_, M_Standing_can⟩ := j_Standing_can (P := P) (base := base) v
  obtain ⟨_, M_Search_add⟩ := j_Search_add (P := P) (base := base) v
  obtain ⟨_, M_Standing_behind⟩ := j_Standing_behind (P := P) (base := base) v
  exact ⟨fd, GK.mk (ok_Search_init (c := ccOf K) F v.B v.OSearch M_Standing_key M_Standing_can M_Search_add M_Standing_behind) (He.mkr_ok (v.fa 104 rfl)) (v.glo 105 rfl) b⟩
theorem j_first_standing (v : EnvOk w K mg h) : ∃ fd, GF P w K mg base "first_standing" ps_first_standing 5 (sp_first_standing (ccOf K)) (He.ga K "first_standing") fd := by
  obtain ⟨fd, D⟩ := v.c.d.def_ 52 (d := dD_first_standing) rfl
  have F : Fun K "first_standing" "first_standing" s_first_standing _ fd := fun_of D
  have b : Binds K fd ps_first_standing [] := F.binds (ps := ps_first_standing) fun _ _ _ _ _ _ us hl => match us, hl with | [_, _], _ => rfl
  obtain ⟨_, C_State⟩ := j_State_init (P := P) (base := base) v
  obtain ⟨_, C_Standing⟩ := j_Standing_init (P := P) (base := base) v
  exact ⟨fd, GF.mk (ok_first_standing (c := ccOf K) F v.B v.O C_State C_Standing) (v.glo 106 rfl) F.kp b⟩
theorem j_search (v : EnvOk w K mg h) : ∃ fd, GF P w K mg base "search" ps_search 12 (sp_search P w (ccOf K)) (He.ga K "search") fd := by
  obtain ⟨fd, D⟩ := v.c.d.def_ 53 (d := dD_search) rfl
  have F : Fun K "search" "search" s_search _ fd := fun_of D
  have b : Binds K fd ps_search [] := F.binds (ps := ps_search) fun _ _ _ _ _ _ us hl => match us, hl with | [_, _], _ => rfl
  obtain ⟨_, C_Search⟩ := j_Search_init (P := P) (base := base) v
  obtain ⟨_, G_first_standing⟩ := j_first_standing (P := P) (base := base) v
  exact ⟨fd, GF.mk (ok_search (c := ccOf K) F C_Search G_first_standing) (v.glo 107 rfl) F.kp b⟩
theorem j_Standing_is_ended (v : EnvOk w K mg h) : ∃ fd, GM P w K mg base (He.ga K "Standing") "is_ended" ps_Standing_is_ended 5 (sp_is_ended (ccOf K)) (He.ma K (He.ga K "Standing") "is_ended") fd := by
  obtain ⟨fd, D⟩ := v.c.d.def_ 54 (d := dD_Standing_is_ended) rfl
  have F : Fun K "is_ended" "Standing.is_ended" s_Standing_is_ended _ fd := fun_of D
  have b : Binds K fd ps_Standing_is_ended [] := F.binds (ps := ps_Standing_is_ended) fun _ _ _ _ _ _ us hl => match us, hl with | [_], _ => rfl
  obtain ⟨_, M_Standing_word⟩ := j_Standing_word (P := P) (base := base) v
  exact ⟨fd, GM.mk (ok_is_ended (c := ccOf K) F v.B v.O M_Standing_word) (He.meth_ok (v.fa 108 rfl)) (He.cls_ok (v.fa 40 rfl)) b⟩
theorem j_Standing_outcome (v : EnvOk w K mg h) : ∃ fd, GM P w K mg base (He.ga K "Standing") "outcome" ps_Standing_outcome 3 (sp_outcome (ccOf K)) (He.ma K (He.ga K "Standing") "outcome") fd := by
  obtain ⟨fd, D⟩ := v.c.d.def_ 55 (d := dD_Standing_outcome) rfl
  have F : Fun K "outcome" "Standing.outcome" s_Standing_outcome _ fd := fun_of D
  have b : Binds K fd ps_Standing_outcome [] := F.binds (ps := ps_Standing_outcome) fun _ _ _ _ _ _ us hl => match us, hl with | [_], _ => rfl
  exact ⟨fd, GM.mk (ok_outcome (c := ccOf K) F v.B v.O) (He.meth_ok (v.fa 109 rfl)) (He.cls_ok (v.fa 40 rfl)) b⟩
theorem j_Search_ends (v : EnvOk w K mg h) : ∃ fd, GM P w K mg base (He.ga K "Search") "ends" ps_Search_ends 6 (sp_ends P w (ccOf K)) (He.ma K (He.ga K "Search") "ends") fd := by
  obtain ⟨fd, D⟩ := v.c.d.def_ 56 (d := dD_Search_ends) rfl
  have F : Fun K "ends" "Search.ends" s_Search_ends _ fd := fun_of D
  have b : Binds K fd ps_Search_ends [] := F.binds (ps := ps_Search_ends) fun _ _ _ _ _ _ us hl => match us, hl with | [_], _ => rfl
  obtain ⟨_, M_Standing_is_ended⟩ := j_Standing_is_ended (P := P) (base := base) v
  obtain ⟨_, M_Standing_outcome⟩ := j_Standing_outcome (P := P) (base := base) v
  exact ⟨fd, GM.mk (ok_ends (c := ccOf K) F v.B v.OSearch M_Standing_is_ended M_Standing_outcome) (He.meth_ok (v.fa 110 rfl)) (He.cls_ok (v.fa 45 rfl)) b⟩
theorem j_outcomes_of (v : EnvOk w K mg h) : ∃ fd, GF P w K mg base "outcomes_of" ps_outcomes_of 13 (sp_outcomes (ccOf K)) (He.ga K "outcomes_of") fd := by
  obtain ⟨fd, D⟩ := v.c.d.def_ 57 (d := dD_outcomes_of) rfl
  have F : Fun K "outcomes_of" "outcomes_of" s_outcomes_of _ fd := fun_of D
  have b : Binds K fd ps_outcomes_of [] := F.binds (ps := ps_outcomes_of) fun _ _ _ _ _ _ us hl => match us, hl with | [_, _], _ => rfl
  obtain ⟨_, G_search⟩ := j_search (P := P) (base := base) v
  obtain ⟨_, M_Search_ends⟩ := j_Search_ends (P := P) (base := base) v
  exact ⟨fd, GF.mk (ok_outcomes_of (c := ccOf K) F v.B G_search M_Search_ends) (v.glo 111 rfl) F.kp b⟩
theorem j_outcomes (v : EnvOk w K mg h) : ∃ fd, GF P w K mg base "outcomes" ps_outcomes 14 (sp_outcomes (ccOf K)) (He.ga K "outcomes") fd := by
  obtain ⟨fd, D⟩ := v.c.d.def_ 58 (d := dD_outcomes) rfl
  have F : Fun K "outcomes" "outcomes" s_outcomes _ fd := fun_of D
  have b : Binds K fd ps_outcomes [] := F.binds (ps := ps_outcomes) fun _ _ _ _ _ _ us hl => match us, hl with | [_, _], _ => rfl
  obtain ⟨_, G_check_program⟩ := j_check_program (P := P) (base := base) v
  obtain ⟨_, G_outcomes_of⟩ := j_outcomes_of (P := P) (base := base) v
  exact ⟨fd, GF.mk (ok_outcomes (c := ccOf K) F G_check_program G_outcomes_of) (v.glo 112 rfl) F.kp b⟩
theorem j_law_is (v : EnvOk w K mg h) : ∃ fd, GF P w K mg base "_law_is" ps_law_is 6 (sp_is 4) (He.ga K "_law_is") fd := by
  obtain ⟨fd, D⟩ := v.c.d.def_ 59 (d := dD_law_is) rfl
  have F : Fun K "_law_is" "_law_is" s_law_is _ fd := fun_of D
  have b : Binds K fd ps_law_is [] := F.binds (ps := ps_law_is) fun _ _ _ _ _ _ us hl => match us, hl with | [_, _], _ => rfl
  exact ⟨fd, GF.mk (ok__law_is F v.B (v.glo 113 rfl) F.kp b 4) (v.glo 113 rfl) F.kp b⟩
theorem j_many_standings (v : EnvOk w K mg h) : ∃ fd, GF P w K mg base "many_standings" ps_many_standings 14 (sp_many (ccOf K)) (He.ga K "many_standings") fd := by
  obtain ⟨fd, D⟩ := v.c.d.def_ 60 (d := dD_many_standings) rfl
  have F : Fun K "many_standings" "many_standings" s_many_standings _ fd := fun_of D
  have b : Binds K fd ps_many_standings [] := F.binds (ps := ps_many_standings) fun _ _ _ _ _ _ us hl => match us, hl with | [_, _], _ => rfl
  obtain ⟨_, G_check_program⟩ := j_check_program (P := P) (base := base) v
  obtain ⟨_, G_search⟩ := j_search (P := P) (base := base) v
  exact ⟨fd, GF.mk (ok_many (c := ccOf K) F v.B v.OSearch G_check_program G_search) (v.glo 114 rfl) F.kp b⟩
theorem j_is_outcome (v : EnvOk w K mg h) : ∃ fd, GF P w K mg base "is_outcome" ps_is_outcome 4 (sp_is_outcome (ccOf K)) (He.ga K "is_outcome") fd := by
  obtain ⟨fd, D⟩ := v.c.d.def_ 61 (d := dD_is_outcome) rfl
  have F : Fun K "is_outcome" "is_outcome" s_is_outcome _ fd := fun_of D
  have b : Binds K fd ps_is_outcome [] := F.binds (ps := ps_is_outcome) fun _ _ _ _ _ _ us hl => match us, hl with | [_, _], _ => rfl
  obtain ⟨_, G_is_integer⟩ := j_is_integer (P := P) (base := base) v
  exact ⟨fd, GF.mk (ok_is_outcome (c := ccOf K) F v.B v.O G_is_integer) (v.glo 115 rfl) F.kp b⟩
theorem j_Search_steps_to (v : EnvOk w K mg h) : ∃ fd, GM P w K mg base (He.ga K "Search") "steps_to" ps_Search_steps_to 3 (sp_steps_to P w (ccOf K)) (He.ma K (He.ga K "Search") "steps_to") fd := by
  obtain ⟨fd, D⟩ := v.c.d.def_ 62 (d := dD_Search_steps_to) rfl
  have F : Fun K "steps_to" "Search.steps_to" s_Search_steps_to _ fd := fun_of D
  have b : Binds K fd ps_Search_steps_to [] := F.binds (ps := ps_Search_steps_to) fun _ _ _ _ _ _ us hl => match us, hl with | [_, _], _ => rfl
  exact ⟨fd, GM.mk (ok_steps_to (c := ccOf K) F v.OSearch) (He.meth_ok (v.fa 116 rfl)) (He.cls_ok (v.fa 45 rfl)) b⟩
theorem j_run_to (v : EnvOk w K mg h) : ∃ fd, GF P w K mg base "run_to" ps_run_to 14 (sp_run_to (ccOf K)) (He.ga K "run_to") fd := by
  obtain ⟨fd, D⟩ := v.c.d.def_ 63 (d := dD_run_to) rfl
  have F : Fun K "run_to" "run_to" s_run_to _ fd := fun_of D
  have b : Binds K fd ps_run_to [] := F.binds (ps := ps_run_to) fun _ _ _ _ _ _ us hl => match us, hl with | [_, _, _], _ => rfl
  obtain ⟨_, G_check_program⟩ := j_check_program (P := P) (base := base) v
  obtain ⟨_, G_search⟩ := j_search (P := P) (base := base) v
  obtain ⟨_, M_Search_ends⟩ := j_Search_ends (P := P) (base := base) v
  obtain ⟨_, G_is_outcome⟩ := j_is_outcome (P := P) (base := base) v
  obtain ⟨_, M_Search_steps_to⟩ := j_Search_steps_to (P := P) (base := base) v
  exact ⟨fd, GF.mk (ok_run_to (c := ccOf K) F G_check_program G_search M_Search_ends G_is_outcome M_Search_steps_to) (v.glo 117 rfl) F.kp b⟩
theorem j_law_whole (v : EnvOk w K mg h) : ∃ fd, GF P w K mg base "_law_whole" ps_law_whole 3 sp_law_whole (He.ga K "_law_whole") fd := by
  obtain ⟨fd, D⟩ := v.c.d.def_ 64 (d := dD_law_whole) rfl
  have F : Fun K "_law_whole" "_law_whole" s_law_whole _ fd := fun_of D
  have b : Binds K fd ps_law_whole [] := F.binds (ps := ps_law_whole) fun _ _ _ _ _ _ us hl => match us, hl with | [_, _, _], _ => rfl
  exact ⟨fd, GF.mk (ok__law_whole F v.B) (v.glo 118 rfl) F.kp b⟩
theorem j_law_lead (v : EnvOk w K mg h) : ∃ fd, GF P w K mg base "_law_lead" ps_law_lead 6 sp_law_lead (He.ga K "_law_lead") fd := by
  obtain ⟨fd, D⟩ := v.c.d.def_ 65 (d := dD_law_lead) rfl
  have F : Fun K "_law_lead" "_law_lead" s_law_lead _ fd := fun_of D
  have b : Binds K fd ps_law_lead [] := F.binds (ps := ps_law_lead) fun _ _ _ _ _ _ us hl => match us, hl with | [_, _, _, _], _ => rfl
  obtain ⟨_, G_law_first⟩ := j_law_first (P := P) (base := base) v
  obtain ⟨_, G_law_can⟩ := j_law_can (P := P) (base := base) v
  obtain ⟨_, G_law_behind⟩ := j_law_behind (P := P) (base := base) v
  obtain ⟨_, G_law_whole⟩ := j_law_whole (P := P) (base := base) v
  exact ⟨fd, GF.mk (ok__law_lead F v.B G_law_first G_law_can G_law_behind G_law_whole) (v.glo 119 rfl) F.kp b⟩
theorem j_law_runs_right (v : EnvOk w K mg h) : ∃ fd, GF P w K mg base "_law_runs_right" ps_law_runs_right 15 (sp_runs_right (ccOf K)) (He.ga K "_law_runs_right") fd := by
  obtain ⟨fd, D⟩ := v.c.d.def_ 66 (d := dD_law_runs_right) rfl
  have F : Fun K "_law_runs_right" "_law_runs_right" s_law_runs_right _ fd := fun_of D
  have b : Binds K fd ps_law_runs_right [] := F.binds (ps := ps_law_runs_right) fun _ _ _ _ _ _ us hl => match us, hl with | [_, _, _, _, _, _], _ => rfl
  obtain ⟨_, G_run_to⟩ := j_run_to (P := P) (base := base) v
  obtain ⟨_, G_law_lead⟩ := j_law_lead (P := P) (base := base) v
  obtain ⟨_, G_law_ended⟩ := j_law_ended (P := P) (base := base) v
  exact ⟨fd, GF.mk (ok__law_runs_right (c := ccOf K) F v.B G_run_to G_law_lead G_law_ended) (v.glo 120 rfl) F.kp b⟩
theorem j_stuck (v : EnvOk w K mg h) : ∃ fd, GF P w K mg base "stuck" ps_stuck 14 (sp_stuck (ccOf K)) (He.ga K "stuck") fd := by
  obtain ⟨fd, D⟩ := v.c.d.def_ 67 (d := dD_stuck) rfl
  have F : Fun K "stuck" "stuck" s_stuck _ fd := fun_of D
  have b : Binds K fd ps_stuck [] := F.binds (ps := ps_stuck) fun _ _ _ _ _ _ us hl => match us, hl with | [_, _], _ => rfl
  obtain ⟨_, G_check_program⟩ := j_check_program (P := P) (base := base) v
  obtain ⟨_, G_search⟩ := j_search (P := P) (base := base) v
  obtain ⟨_, M_Standing_can⟩ := j_Standing_can (P := P) (base := base) v
  obtain ⟨_, M_Standing_is_ended⟩ := j_Standing_is_ended (P := P) (base := base) v
  obtain ⟨_, M_Search_steps_to⟩ := j_Search_steps_to (P := P) (base := base) v
  exact ⟨fd, GF.mk (ok_stuck (c := ccOf K) F v.B v.OSearch G_check_program G_search M_Standing_can M_Standing_is_ended M_Search_steps_to) (v.glo 121 rfl) F.kp b⟩
theorem facts {f : Addr} (v : EnvOk w K mg h) (hfa : mg ("law" : Str) = some (.ref f)) :
    ∃ fd : FuncData, (∀ (s : Shared) (u : Value), BindsTo s fd ⟨[u], []⟩ [("_law_script", u)]) ∧ ∀ base : Heap, K.In base → base.Ns mainGlobals mg → FnOk P w K mg base CX0 16 f fd ["_law_script"] (sp_law K) := by
  have e := hfa.symm.trans (v.glo 122 rfl)
  cases e
  obtain ⟨fd, D⟩ := v.c.d.def_ 68 (d := dD_law) rfl
  refine ⟨fd, fun s u => FunD.bindsA (ps := ["_law_script"]) D (fun _ _ _ _ _ _ us hl => match us, hl with | [_], _ => rfl) s [u] rfl, fun base _ _ => ?_⟩
  have F : Fun K "law" "law" s_law _ fd := fun_of D
  obtain ⟨_, G_law_hand⟩ := j_law_hand (P := P) (base := base) v
  obtain ⟨_, G_law_small⟩ := j_law_small (P := P) (base := base) v
  obtain ⟨_, C_Web⟩ := j_Web_init (P := P) (base := base) v
  obtain ⟨_, C_Program⟩ := j_Program_init (P := P) (base := base) v
  obtain ⟨_, G_law_all⟩ := j_law_all (P := P) (base := base) v
  obtain ⟨_, G_law_ends⟩ := j_law_ends (P := P) (base := base) v
  obtain ⟨_, G_outcomes⟩ := j_outcomes (P := P) (base := base) v
  obtain ⟨_, G_law_is⟩ := j_law_is (P := P) (base := base) v
  obtain ⟨_, G_many_standings⟩ := j_many_standings (P := P) (base := base) v
  obtain ⟨_, G_law_runs_right⟩ := j_law_runs_right (P := P) (base := base) v
  obtain ⟨_, G_law_can⟩ := j_law_can (P := P) (base := base) v
  obtain ⟨_, G_law_ended⟩ := j_law_ended (P := P) (base := base) v
  obtain ⟨_, G_stuck⟩ := j_stuck (P := P) (base := base) v
  obtain ⟨_, G_law_lead⟩ := j_law_lead (P := P) (base := base) v
  exact ok_law (c := ccOf K) F v.B G_law_hand G_law_small C_Web C_Program G_law_all G_law_ends G_outcomes G_law_is G_many_standings G_law_runs_right G_law_can G_law_ended G_stuck G_law_lead
end
end G
open PySem PySem.W PySem.Calls PyProof.Rows
theorem PySem.Challenge.cw_growalong_k40_whole_outcomes_by_own_step_holds : PySem.Challenge.rw_growalong_k40_whole_outcomes_by_own_step.Holds := by
  w_on; o_law
  refine HandSHeadRun.head_any (r := OpenLaw.row PySem.Challenge.rw_growalong_k40_whole_outcomes_by_own_step) (q := view (OpenLaw.row PySem.Challenge.rw_growalong_k40_whole_outcomes_by_own_step).prog [G.lawI]) (H := G.hkH) (ob := G.obH) (M := 6000) (loose := G.looseL) (d := HandSHeadRun.topDef (OpenLaw.row PySem.Challenge.rw_growalong_k40_whole_outcomes_by_own_step).prog G.lawI) (kwd := []) G.obH_eq
    (by kernel_rfl) (fun s => by kernel_rfl) G.run_top (by kernel_rfl) (by kernel_rfl) (by kernel_rfl) (by rfl) (by first | assumption | decide +kernel) (by decide +kernel) ⟨rfl, rfl, rfl, rfl, rfl, by decide +kernel⟩ ?hw ?hc
  case hw => w_witness2
  case hc =>
    refine L2.walk_ofE (l := PySem.Challenge.rw_growalong_k40_whole_outcomes_by_own_step) (n := 63) (k := 16) (x := "_law_script") (CX := L2.CX0) rfl (by decide) (by kernel_rfl) ⟨rfl, by decide, by decide⟩ ?F (fun _ _ _ _ z => z)
    intro w mg fa h Y GN hmg0
    obtain ⟨K, KX, c, ce⟩ := Y
    have hmg : mg ("law" : PySem.Str) = some (.ref fa) := by
      have e : (HandSHeadRun.topDef (OpenLaw.row PySem.Challenge.rw_growalong_k40_whole_outcomes_by_own_step).prog G.lawI).name = ("law" : PySem.Str) := by kernel_rfl
      rw [← e]
      exact hmg0
    obtain ⟨fd, hb, hF⟩ := G.facts (P := (PySem.Challenge.rw_growalong_k40_whole_outcomes_by_own_step).prog) (w := w) ⟨KX, GN, c, ce⟩ hmg
    exact ⟨K, fd, G.sp_law K, KX, hb, fun H a ns hl _ hS => ⟨ns, H, hl, L2.Same.refl _, .cons ⟨a, rfl, hS⟩ .nil, fun v F' H' _ p => G.dat_bl p⟩, hF⟩
