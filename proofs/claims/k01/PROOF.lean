import PyProof.Rows.All
import Wide.All
import OpenK.AllK
import Wide.FinOn
import HandS.ForMost
import HandS.Exc
import HandS.ExcOwn
import HandS.TryOnly
import HandS.WordsExc
import HandS.Flow
import HandS.IsInst
import HandS.TupAny
import HandS.Wide
import HandS.Zip
import HandS.SortInts
import HandS.More
import HandS.Iter
import KE.GoesNew
import KE.GoesEnum
import KE.KExcSuper
import HandS.ExcInit
import HandS.ExcField
import HandS.ExcIs
import HandS.ExcSuper
import HandS.Rev
import HandS.HeadHook1
import HandS.Style
import HandS.RaiseMore
import HandS.HotCalls
import PySem.Challenge.RW_wheelwritten_k01_whole_arithmetic
set_option Elab.async false
set_option linter.all false
set_option maxRecDepth 100000
set_option maxHeartbeats 4000000
/-! A layer of data without a heap, over the hand layer: what is frozen (F), what is owned, one cell of draws. -/
namespace Pl
open PySem L2
abbrev D := PyData
/-- what an abstract slot or a result is: data | a list that nobody else holds | the cell of draws -/
inductive U where
  | d (x : D) | own (l : List D) | hold (V : List D → Prop) | exc (a dd : Addr) (fs : List (Str × D))
def Sub (F F' : Hp) : Prop := ∀ b o, F b = some o → F' b = some o
/-- the cell of draws: where, what its content keeps, what stands frozen for it -/
structure Rg where
  a : Option Addr
  HV : List D → Prop
  bad : Addr → Prop
def Rg.no : Rg := ⟨none, fun _ => True, fun _ => False⟩
abbrev Sl := List (Option U)
/-- an exception: its class, its fields -/
structure Ex where
  C : Addr
  fs : List (Str × D)
abbrev Fr := PySem.W.Frag
def dat : U → Option D
  | .d x => some x
  | .own l => some (.list l)
  | .hold _ => none
  | .exc _ _ _ => none
/-- what follows a result taken as data -/
def onD (r : U) (k : D → Prop) : Prop := match r with
  | .d x => k x
  | .own l => k (.list l)
  | .hold _ => False
  | .exc _ _ _ => False
mutual
def nol : D → Bool
  | .none => true
  | .bool _ => true
  | .int _ => true
  | .str _ => true
  | .list _ => false
  | .tuple l => nols l
  | .dict _ => false
def nols : List D → Bool
  | [] => true
  | x :: l => nol x && nols l
end
def nolU : U → Bool
  | .d x => nol x
  | .own l => nols l
  | .hold _ => true
  | .exc _ _ _ => false

/-! ### frozen parts -/
section
variable {K : Fr} {R : Rg} {F F' F'' H H' H'' : Hp}
theorem Sub.refl : Sub F F := fun _ _ h => h
theorem Sub.trans (a : Sub F F') (b : Sub F' F'') : Sub F F'' := fun x o h => b x o (a x o h)
theorem Sub.new {p : Addr} {o : HO} (h : F p = none) : Sub F (upd F p o) := fun b u e => by
  rw [upd_ne (ne_of_none e h)]; exact e
theorem Sub.rd {a : Addr} {u : HO} (e : Sub F F') (h : Rd F a u) : Rd F' a u := by
  rcases h with h | ⟨o, h⟩
  · exact .inl (e a _ h)
  · exact .inr ⟨o, e a _ h⟩
theorem Sub.l {a : Addr} {xs : List V} (e : Sub F F') (h : SqL K F a xs) : SqL K F' a xs := h.imp (fun h => e.rd h) fun h => h
theorem Sub.t {a : Addr} {xs : List V} (e : Sub F F') (h : SqT K F a xs) : SqT K F' a xs := h.imp (fun h => e.rd h) fun h => h
mutual
theorem Sub.dp (e : Sub F F') : ∀ (d : D) (v : V), Dp K F v d → Dp K F' v d
  | .none, _, h => by cases h; exact .non
  | .bool _, _, h => by cases h; exact .bl _
  | .int _, _, h => by cases h; exact .int _
  | .str _, _, h => by cases h; exact .str _
  | .list l, _, h => by cases h with | lst s a => exact .lst (e.l s) (Sub.dps e l _ a)
  | .tuple l, _, h => by cases h with | tup s a => exact .tup (e.t s) (Sub.dps e l _ a)
  | .dict _, _, h => by cases h
theorem Sub.dps (e : Sub F F') : ∀ (l : List D) (vs : List V), DpAll K F vs l → DpAll K F' vs l
  | [], _, h => by cases h; exact .nil
  | d :: l, _, h => by cases h with | cons a b => exact .cons (Sub.dp e d _ a) (Sub.dps e l _ b)
end
theorem _root_.L2.Dp.subH {d : D} {v : V} (h : Dp K F v d) (e : Sub F F') : Dp K F' v d := e.dp d v h
theorem _root_.L2.DpAll.subH {l : List D} {vs : List V} (h : DpAll K F vs l) (e : Sub F F') : DpAll K F' vs l := e.dps l vs h
theorem _root_.L2.DpAll.lengthH {vs : List V} {l : List D} (h : DpAll K F vs l) : vs.length = l.length := by
  induction l generalizing vs with
  | nil => cases h; rfl
  | cons d l ih => cases h with | cons a b => simp [ih b]
theorem _root_.L2.DpAll.getH {vs : List V} {l : List D} {i : Nat} {d : D} (h : DpAll K F vs l) (e : l[i]? = some d) : ∃ v, vs[i]? = some v ∧ Dp K F v d := by
  induction l generalizing vs i with
  | nil => simp at e
  | cons x l ih =>
    cases h with
    | cons a b =>
      cases i with
      | zero => simp at e; subst e; exact ⟨_, by simp, a⟩
      | succ i => obtain ⟨v, h1, h2⟩ := ih (i := i) b (by simpa using e); exact ⟨v, by simpa using h1, h2⟩
theorem _root_.L2.DpAll.getVH {vs : List V} {l : List D} {i : Nat} {v : V} (h : DpAll K F vs l) (e : vs[i]? = some v) : ∃ d, l[i]? = some d ∧ Dp K F v d := by
  have hi := (List.getElem?_eq_some_iff.mp e).1
  rw [h.lengthH] at hi
  obtain ⟨v', h1, h2⟩ := h.getH (List.getElem?_eq_getElem hi)
  rw [e] at h1
  cases h1
  exact ⟨_, List.getElem?_eq_getElem hi, h2⟩
theorem _root_.L2.DpAll.appendH {vs ws : List V} {l m : List D} (h : DpAll K F vs l) (g : DpAll K F ws m) : DpAll K F (vs ++ ws) (l ++ m) := by
  induction l generalizing vs with
  | nil => cases h; exact g
  | cons d l ih => cases h with | cons a b => exact .cons a (ih b)
theorem _root_.L2.DpAll.oneH {v : V} {d : D} (h : Dp K F v d) : DpAll K F [v] [d] := .cons h .nil
theorem _root_.L2.DpAll.setH {vs : List V} {l : List D} {i : Nat} {v : V} {d : D} (h : DpAll K F vs l) (g : Dp K F v d) : DpAll K F (vs.set i v) (l.set i d) := by
  induction l generalizing vs i with
  | nil => cases h; exact .nil
  | cons x l ih =>
    cases h with
    | cons a b =>
      cases i with
      | zero => exact .cons g b
      | succ i => exact .cons a (ih b)
theorem _root_.L2.DpAll.takeH {vs : List V} {l : List D} (n : Nat) (h : DpAll K F vs l) : DpAll K F (vs.take n) (l.take n) := by
  induction l generalizing vs n with
  | nil => cases h; simp; exact .nil
  | cons x l ih =>
    cases h with
    | cons a b =>
      cases n with
      | zero => exact .nil
      | succ n => exact .cons a (ih n b)
theorem _root_.L2.DpAll.dropH {vs : List V} {l : List D} (n : Nat) (h : DpAll K F vs l) : DpAll K F (vs.drop n) (l.drop n) := by
  induction l generalizing vs n with
  | nil => cases h; simp; exact .nil
  | cons x l ih =>
    cases h with
    | cons a b =>
      cases n with
      | zero => exact .cons a b
      | succ n => exact ih n b
/-- values without lists stand on tuples alone -/
theorem Sub.rdt {a : Addr} {xs : List V} (e : ∀ b, (∀ l, F b ≠ some (.lst l)) → ∀ o, F b = some o → F' b = some o) (h : SqT K F a xs) : SqT K F' a xs := by
  rcases h with h | h
  · rcases h with h | ⟨o, h⟩
    · exact .inl (.inl (e a (fun l z => by rw [h] at z; cases z) _ h))
    · exact .inl (.inr ⟨o, e a (fun l z => by rw [h] at z; cases z) _ h⟩)
  · exact .inr h
mutual
theorem dp_nol (e : ∀ b, (∀ l, F b ≠ some (.lst l)) → ∀ o, F b = some o → F' b = some o) : ∀ (d : D) (v : V), nol d = true → Dp K F v d → Dp K F' v d
  | .none, _, _, h => by cases h; exact .non
  | .bool _, _, _, h => by cases h; exact .bl _
  | .int _, _, _, h => by cases h; exact .int _
  | .str _, _, _, h => by cases h; exact .str _
  | .list l, _, n, h => by simp [nol] at n
  | .tuple l, _, n, h => by cases h with | tup s a => exact .tup (Sub.rdt e s) (dps_nol e l _ (by simpa [nol] using n) a)
  | .dict _, _, _, h => by cases h
theorem dps_nol (e : ∀ b, (∀ l, F b ≠ some (.lst l)) → ∀ o, F b = some o → F' b = some o) : ∀ (l : List D) (vs : List V), nols l = true → DpAll K F vs l → DpAll K F' vs l
  | [], _, _, h => by cases h; exact .nil
  | d :: l, _, n, h => by
    cases h with
    | cons a b =>
      have n' : (nol d && nols l) = true := by simpa [nols] using n
      exact .cons (dp_nol e d _ (Bool.and_eq_true_iff.mp n').1 a) (dps_nol e l _ (Bool.and_eq_true_iff.mp n').2 b)
end

/-- the frozen part F of the heap H, the cell of draws beside it -/
structure Ok (K : Fr) (R : Rg) (F H : Hp) : Prop where
  sub : Sub F H
  dis : ∀ b, R.a = some b → F b = none
  inv : ∀ b, R.a = some b → ∃ xs l G, H b = some (.lst xs) ∧ Sub G F ∧ (∀ c, R.bad c → G c = none) ∧ DpAll K G xs l ∧ R.HV l
  alive : ∀ b, R.bad b → H b ≠ none
/-- it grows: nothing is changed but the cell of draws -/
structure Gr (K : Fr) (R : Rg) (F H F' H' : Hp) : Prop where
  ex : Sub F F'
  keep : ∀ b o, ¬ R.a = some b → H b = some o → H' b = some o
  new : ∀ b o, F' b = some o → F b = some o ∨ H b = none
  ok : Ok K R F' H'
theorem Ok.refl (ok : Ok K R F H) : Gr K R F H F H := ⟨Sub.refl, fun _ _ _ h => h, fun _ _ h => .inl h, ok⟩
theorem Gr.trans (a : Gr K R F H F' H') (b : Gr K R F' H' F'' H'') : Gr K R F H F'' H'' := by
  refine ⟨a.ex.trans b.ex, fun c o n h => b.keep c o n (a.keep c o n h), fun c o h => ?_, b.ok⟩
  rcases b.new c o h with h1 | h1
  · exact a.new c o h1
  · refine .inr ?_
    cases e : H c with
    | none => rfl
    | some u =>
      by_cases hd : R.a = some c
      · rw [b.ok.dis c hd] at h; cases h
      · rw [a.keep c u hd e] at h1; cases h1
/-- a new frozen object -/
theorem Ok.frz {p : Addr} {o : HO} (ok : Ok K R F H) (hp : H p = none) : Gr K R F H (upd F p o) (upd H p o) := by
  have hF : F p = none := by
    cases e : F p with
    | none => rfl
    | some u => rw [ok.sub p u e] at hp; cases hp
  have hd : ¬ R.a = some p := fun z => by
    obtain ⟨xs, _, _, h, _⟩ := ok.inv p z
    rw [hp] at h; cases h
  refine ⟨Sub.new hF, fun b u _ e => by rw [upd_ne (ne_of_none e hp)]; exact e, fun b u e => ?_, ⟨fun b u e => ?_, fun b hb => ?_, fun b hb => ?_, fun b hb => ?_⟩⟩
  · by_cases hb : b = p
    · subst hb; exact .inr hp
    · rw [upd_ne hb] at e; exact .inl e
  · by_cases hb : b = p
    · subst hb; rw [upd_same] at e ⊢; exact e
    · rw [upd_ne hb] at e ⊢; exact ok.sub b u e
  · have n : b ≠ p := fun z => hd (z ▸ hb)
    rw [upd_ne n]; exact ok.dis b hb
  · have n : b ≠ p := fun z => hd (z ▸ hb)
    obtain ⟨xs, l, G, h, i, j⟩ := ok.inv b hb
    exact ⟨xs, l, G, by rw [upd_ne n]; exact h, i.trans (Sub.new hF), j⟩
  · by_cases n : b = p
    · rw [n, upd_same]; simp
    · rw [upd_ne n]; exact ok.alive b hb
/-- a new object that is not frozen -/
theorem Ok.lay {p : Addr} {o : HO} (ok : Ok K R F H) (hp : H p = none) : Gr K R F H F (upd H p o) := by
  have hd : ¬ R.a = some p := fun z => by
    obtain ⟨xs, _, _, h, _⟩ := ok.inv p z
    rw [hp] at h; cases h
  refine ⟨Sub.refl, fun b u _ e => by rw [upd_ne (ne_of_none e hp)]; exact e, fun b u e => .inl e, ⟨fun b u e => ?_, ok.dis, fun b hb => ?_, fun b hb => ?_⟩⟩
  · have e' := ok.sub b u e
    rw [upd_ne (ne_of_none e' hp)]; exact e'
  · have n : b ≠ p := fun z => hd (z ▸ hb)
    obtain ⟨xs, l, G, h, i⟩ := ok.inv b hb
    exact ⟨xs, l, G, by rw [upd_ne n]; exact h, i⟩
  · by_cases n : b = p
    · rw [n, upd_same]; simp
    · rw [upd_ne n]; exact ok.alive b hb
/-- an object that nobody holds is frozen as it stands -/
theorem Ok.freeze {p : Addr} {o : HO} (ok : Ok K R F H) (hp : H p = some o) (hF : F p = none) (hd : ¬ R.a = some p) : Ok K R (upd F p o) H := by
  refine ⟨fun b u e => ?_, fun b hb => ?_, fun b hb => ?_, ok.alive⟩
  · by_cases hb : b = p
    · subst hb; rw [upd_same] at e; cases e; exact hp
    · rw [upd_ne hb] at e; exact ok.sub b u e
  · have n : b ≠ p := fun z => hd (z ▸ hb)
    rw [upd_ne n]; exact ok.dis b hb
  · obtain ⟨xs, l, G, h, i, j⟩ := ok.inv b hb
    exact ⟨xs, l, G, h, i.trans (Sub.new hF), j⟩

/-- an exception that is held at a, its fields in the dict at dd -/
def RepE (K : Fr) (F : Hp) (v : V) (a dd : Addr) (fs : List (Str × D)) : Prop := v = .ref a ∧ ∃ gs : List (Str × V), F dd = some (.xd gs) ∧ ∀ f y, fs.lookup f = some y → ∃ v, gs.lookup f = some v ∧ Dp K F v y
theorem RepE.sub {v : V} {a dd : Addr} {fs : List (Str × D)} (h : RepE K F v a dd fs) (e : Sub F F') : RepE K F' v a dd fs := by
  obtain ⟨h1, gs, h2, h3⟩ := h
  refine ⟨h1, gs, e _ _ h2, fun f y hy => ?_⟩
  obtain ⟨v, h4, h5⟩ := h3 f y hy
  exact ⟨v, h4, L2.Dp.subH h5 e⟩
/-- a result's value -/
def RepR (K : Fr) (R : Rg) (H F' H' : Hp) (v : V) : U → Prop
  | .d x => Dp K F' v x
  | .own l => ∃ p xs, v = .ref p ∧ H' p = some (.lst xs) ∧ DpAll K F' xs l ∧ F' p = none ∧ H p = none ∧ ¬ R.a = some p
  | .hold V => ∃ a, v = .ref a ∧ R.a = some a ∧ R.HV = V
  | .exc a dd fs => RepE K F' v a dd fs
/-- an argument's, a slot's value -/
def RepA (K : Fr) (R : Rg) (F : Hp) (v : V) : U → Prop
  | .d x => Dp K F v x
  | .own _ => False
  | .hold V => ∃ a, v = .ref a ∧ R.a = some a ∧ R.HV = V
  | .exc a dd fs => RepE K F v a dd fs
def RepX (K : Fr) (F : Hp) (cls : Value) (d : Option Addr) (x : Ex) : Prop :=
  cls = .ref x.C ∧ ∃ (dd : Addr) (fs : List (Str × V)), d = some dd ∧ F dd = some (.xd fs) ∧ ∀ f y, x.fs.lookup f = some y → ∃ v, fs.lookup f = some v ∧ Dp K F v y
theorem RepA.sub {v : V} : ∀ {r : U}, RepA K R F v r → Sub F F' → RepA K R F' v r
  | .d _, h, e => L2.Dp.subH h e
  | .own _, h, _ => h
  | .hold _, h, _ => h
  | .exc _ _ _, h, e => RepE.sub h e
theorem RepA.rg {R' : Rg} {v : V} : ∀ {r : U}, RepA K R F v r → R'.a = R.a → R'.HV = R.HV → RepA K R' F v r
  | .d _, h, _, _ => h
  | .own _, h, _, _ => h
  | .hold _, h, e1, e2 => by
    obtain ⟨a, h1, h2, h3⟩ := h
    exact ⟨a, h1, e1.trans h2, e2.trans h3⟩
  | .exc _ _ _, h, _, _ => h
theorem RepR.rg {R' : Rg} {v : V} : ∀ {r : U}, RepR K R H F' H' v r → R'.a = R.a → R'.HV = R.HV → RepR K R' H F' H' v r
  | .d _, h, _, _ => h
  | .own _, h, e1, _ => by
    obtain ⟨p, xs, h1, h2, h3, h4, h5, h6⟩ := h
    exact ⟨p, xs, h1, h2, h3, h4, h5, by rw [e1]; exact h6⟩
  | .hold _, h, e1, e2 => by
    obtain ⟨a, h1, h2, h3⟩ := h
    exact ⟨a, h1, e1.trans h2, e2.trans h3⟩
  | .exc _ _ _, h, _, _ => h
/-- a result is taken as data: it is frozen -/
theorem RepR.frz {v : V} {r : U} {k : D → Prop} (g : Gr K R F H F' H') (h : RepR K R H F' H' v r) (q : onD r k) : ∃ F'' x, Gr K R F H F'' H' ∧ Dp K F'' v x ∧ k x := by
  cases r with
  | d x => exact ⟨F', x, g, h, q⟩
  | hold V => exact q.elim
  | exc a dd fs => exact q.elim
  | own l =>
    obtain ⟨p, xs, rfl, h1, h2, h3, h4, h5⟩ := h
    have s : Sub F' (upd F' p (.lst xs)) := Sub.new h3
    refine ⟨upd F' p (.lst xs), .list l, ⟨g.ex.trans s, g.keep, fun b o e => ?_, g.ok.freeze h1 h3 h5⟩, .lst (.inl (.inl upd_same)) (h2.subH s), q⟩
    by_cases hb : b = p
    · subst hb; exact .inr h4
    · rw [upd_ne hb] at e; exact g.new b o e
end

/-! ### readings of data, and when a reading of the hand layer keeps one -/
abbrev UE := Sl → (U → Prop) → (Ex → Prop) → Prop
abbrev UT := Sl → (Bool → Prop) → (Ex → Prop) → Prop
abbrev UA := Sl → (List U → Prop) → (Ex → Prop) → Prop
structure RepD (K : Fr) (R : Rg) (F : Hp) (σ : St) (s : Sl) : Prop where
  len : σ.length = s.length
  get : ∀ (i : Nat) (r : U), s[i]? = some (some r) → ∃ v, σ[i]? = some (some v) ∧ RepA K R F v r
theorem RepD.sub {K : Fr} {R : Rg} {F F' : Hp} {σ : St} {s : Sl} (h : RepD K R F σ s) (e : Sub F F') : RepD K R F' σ s := ⟨h.len, fun i r q => by
  obtain ⟨v, h1, h2⟩ := h.get i r q
  exact ⟨v, h1, h2.sub e⟩⟩
/-- the way out by an exception -/
def Out (K : Fr) (W : WX) (R : Rg) (F H : Hp) (σ : St) (PX : Ex → Prop) : Prop := ∀ cls d x F' H', Gr K R F H F' H' → RepX K F' cls d x → PX x → W cls d σ H'
theorem Out.step {K : Fr} {W : WX} {R : Rg} {F H F' H' : Hp} {σ : St} {PX : Ex → Prop} (o : Out K W R F H σ PX) (g : Gr K R F H F' H') : Out K W R F' H' σ PX :=
  fun cls d x F2 H2 g2 => o cls d x F2 H2 (g.trans g2)
def SndE (K : Fr) (W : WX) (t : TE) (u : UE) : Prop := ∀ (R : Rg) (F H : Hp) (σ : St) (s : Sl) (P : U → Prop) (PX : Ex → Prop) (Q : VK), RepD K R F σ s → Ok K R F H → u s P PX →
  (∀ v r F' H', Gr K R F H F' H' → RepR K R H F' H' v r → P r → Q v H') → Out K W R F H σ PX → t σ H Q
def SndT (K : Fr) (W : WX) (t : TT) (u : UT) : Prop := ∀ (R : Rg) (F H : Hp) (σ : St) (s : Sl) (P : Bool → Prop) (PX : Ex → Prop) (Q : Bool → Hp → Prop), RepD K R F σ s → Ok K R F H → u s P PX →
  (∀ b F' H', Gr K R F H F' H' → P b → Q b H') → Out K W R F H σ PX → t σ H Q
/-- arguments: data is frozen -/
def RepAs (K : Fr) (R : Rg) (F : Hp) : List V → List U → Prop
  | [], [] => True
  | v :: vs, r :: rs => RepA K R F v r ∧ RepAs K R F vs rs
  | _, _ => False
def SndA (K : Fr) (W : WX) (t : TA) (u : UA) : Prop := ∀ (R : Rg) (F H : Hp) (σ : St) (s : Sl) (P : List U → Prop) (PX : Ex → Prop) (Q : List V → Hp → Prop), RepD K R F σ s → Ok K R F H → u s P PX →
  (∀ vs rs F' H', Gr K R F H F' H' → RepAs K R F' vs rs → P rs → Q vs H') → Out K W R F H σ PX → t σ H Q
theorem RepAs.sub {K : Fr} {R : Rg} {F F' : Hp} (e : Sub F F') : ∀ {vs : List V} {rs : List U}, RepAs K R F vs rs → RepAs K R F' vs rs
  | [], [], _ => trivial
  | _ :: _, _ :: _, h => ⟨h.1.sub e, RepAs.sub e h.2⟩
  | [], _ :: _, h => h.elim
  | _ :: _, [], h => h.elim
structure DE (X : Cx) (W : WX) (e : Expr) (t : TE) (u : UE) : Prop where
  pe : PE X e t
  snd : SndE X.K W t u
structure DT (X : Cx) (W : WX) (e : Expr) (t : TT) (u : UT) : Prop where
  pt : PT X e t
  snd : SndT X.K W t u
structure DA (X : Cx) (W : WX) (es : List Expr) (t : TA) (u : UA) : Prop where
  pa : PA X es t
  snd : SndA X.K W t u
/-- an expression taken as data -/
theorem SndE.dat {K : Fr} {W : WX} {t : TE} {u : UE} (h : SndE K W t u) {R : Rg} {F H : Hp} {σ : St} {s : Sl} {k : D → Prop} {PX : Ex → Prop} {Q : VK} (rd : RepD K R F σ s) (ok : Ok K R F H) (q : u s (fun r => onD r k) PX)
    (c : ∀ v x F' H', Gr K R F H F' H' → Dp K F' v x → k x → Q v H') (o : Out K W R F H σ PX) : t σ H Q :=
  h R F H σ s _ PX Q rd ok q (fun v r F' H' g rep p => by
    obtain ⟨F2, x, g2, d2, k2⟩ := rep.frz g p
    exact c v x F2 H' g2 d2 k2) o
end Pl

namespace Pl
open PySem L2
section
variable {X : Cx} {W : WX} {e a b c : Expr} {ta tb tc te : TE} {ua ub uc u : UE} {pos : Pos}
/-! ### names, constants -/
def uVar (i : Nat) : UE := fun s P _ => match s[i]? with
  | some (some (.d x)) => P (.d x)
  | some (some (.hold V)) => P (.hold V)
  | _ => False
theorem snd_var {K : Fr} {i : Nat} : SndE K W (tVar i) (uVar i) := by
  intro R F H σ s P PX Q rd ok h c o
  unfold uVar at h
  split at h
  · next x hx =>
    obtain ⟨v, h1, h2⟩ := rd.get i _ hx
    exact ⟨v, h1, c v (.d x) F H ok.refl h2 h⟩
  · next V hx =>
    obtain ⟨v, h1, h2⟩ := rd.get i _ hx
    exact ⟨v, h1, c v (.hold V) F H ok.refl h2 h⟩
  · exact h.elim
theorem dv {x : Str} (i : Nat) (hN : X.N[i]? = some x := by rfl) (hv : Vis X.env.scope x := by first | exact .inl rfl | exact .inr (.inl rfl) | exact .inr (.inr rfl))
    (hd : (x == ("__debug__" : Str)) = false := by decide) (hcd : (x == ("__classdict__" : Str)) = false := by decide) : DE X W (.Name x pos) (tVar i) (uVar i) := ⟨pe_var hN hv hd hcd, snd_var⟩
def uC (x : D) : UE := fun _ P _ => P (.d x)
theorem snd_c {K : Fr} {v : V} {x : D} (h : ∀ F, Dp K F v x) : SndE K W (tC v) (uC x) := fun R F H σ s P PX Q rd ok p c o => c v (.d x) F H ok.refl (h F) p
theorem de_int {i : Int} {j} : DE X W (.Constant (.int i) j pos) (tC (.int i)) (uC (.int i)) := ⟨pe_int, snd_c fun _ => .int i⟩
theorem de_bl {k : Bool} {j} : DE X W (.Constant (.bool k) j pos) (tC (.bl k)) (uC (.bool k)) := ⟨pe_bl, snd_c fun _ => .bl k⟩
theorem de_non {j} : DE X W (.Constant .none j pos) (tC .non) (uC .none) := ⟨pe_non, snd_c fun _ => .non⟩
theorem de_str {x : Str} {j} : DE X W (.Constant (.str x) j pos) (tC (.str x)) (uC (.str x)) := ⟨pe_str, snd_c fun _ => .str x⟩

/-! ### operators by values -/
abbrev Op2 := D → D → (U → Prop) → Prop
abbrev Op1 := D → (U → Prop) → Prop
def SndR (K : Fr) (r : R2) (o : Op2) : Prop := ∀ (R : Rg) (F H : Hp) (x y : V) (dx dy : D) (P : U → Prop) (Q : VK), Ok K R F H → Dp K F x dx → Dp K F y dy → o dx dy P →
  (∀ v r F' H', Gr K R F H F' H' → RepR K R H F' H' v r → P r → Q v H') → r x y H Q
def SndU (K : Fr) (r : V → Hp → VK → Prop) (o : Op1) : Prop := ∀ (R : Rg) (F H : Hp) (x : V) (dx : D) (P : U → Prop) (Q : VK), Ok K R F H → Dp K F x dx → o dx P →
  (∀ v r F' H', Gr K R F H F' H' → RepR K R H F' H' v r → P r → Q v H') → r x H Q
def uOp (o : Op2) (ua ub : UE) : UE := fun s P PX => ua s (fun r => onD r fun x => ub s (fun r' => onD r' fun y => o x y P) PX) PX
def uUn (o : Op1) (ua : UE) : UE := fun s P PX => ua s (fun r => onD r fun x => o x P) PX
theorem RepR.back {K : Fr} {R : Rg} {F H F1 H1 F' H' : Hp} {v : V} : ∀ {r : U}, Gr K R F H F1 H1 → RepR K R H1 F' H' v r → RepR K R H F' H' v r
  | .d _, _, h => h
  | .hold _, _, h => h
  | .exc _ _ _, _, h => h
  | .own l, g, h => by
    obtain ⟨p, xs, h1, h2, h3, h4, h5, h6⟩ := h
    refine ⟨p, xs, h1, h2, h3, h4, ?_, h6⟩
    cases e : H p with
    | none => rfl
    | some o => rw [g.keep p o h6 e] at h5; cases h5
theorem snd_op {K : Fr} {r : R2} {o : Op2} (hr : SndR K r o) (ha : SndE K W ta ua) (hb : SndE K W tb ub) : SndE K W (tOp r ta tb) (uOp o ua ub) := by
  intro R F H σ s P PX Q rd ok h c out
  refine ha.dat rd ok h (fun v x F1 H1 g1 d1 h1 => ?_) out
  refine hb.dat (rd.sub g1.ex) g1.ok h1 (fun w y F2 H2 g2 d2 h2 => ?_) (out.step g1)
  exact hr R F2 H2 v w x y P Q g2.ok (d1.subH g2.ex) d2 h2 fun z r F3 H3 g3 rep p => c z r F3 H3 ((g1.trans g2).trans g3) (rep.back (g1.trans g2)) p
theorem snd_un {K : Fr} {r : V → Hp → VK → Prop} {o : Op1} (hr : SndU K r o) (ha : SndE K W ta ua) : SndE K W (tUn r ta) (uUn o ua) := by
  intro R F H σ s P PX Q rd ok h c out
  refine ha.dat rd ok h (fun v x F1 H1 g1 d1 h1 => ?_) out
  exact hr R F1 H1 v x P Q g1.ok d1 h1 fun z r F3 H3 g3 rep p => c z r F3 H3 (g1.trans g3) (rep.back g1) p
/-- an operator's rule and what it does to data -/
structure DO (X : Cx) (f : Value → Value → Sem Value) (r : R2) (o : Op2) : Prop where
  op : OpR X f r
  snd : SndR X.K r o
structure DU (X : Cx) (f : Value → Sem Value) (r : V → Hp → VK → Prop) (o : Op1) : Prop where
  op : UnR X f r
  snd : SndU X.K r o
theorem de_op {op : Operator} {r : R2} {o : Op2} (h : DO X (binaryOp op) r o) (ha : DE X W a ta ua) (hb : DE X W b tb ub) : DE X W (.BinOp a op b pos) (tOp r ta tb) (uOp o ua ub) := ⟨pe_op h.op ha.pe hb.pe, snd_op h.snd ha.snd hb.snd⟩
theorem de_un {op : UnaryOp} {r : V → Hp → VK → Prop} {o : Op1} (h : DU X (unaryOp op) r o) (ha : DE X W a ta ua) : DE X W (.UnaryOp op a pos) (tUn r ta) (uUn o ua) := ⟨pe_un h.op ha.pe, snd_un h.snd ha.snd⟩
theorem de_cmp {op : CmpOp} {r : R2} {o : Op2} (h : DO X (compareOp op) r o) (ha : DE X W a ta ua) (hb : DE X W b tb ub) (hm : behindInMarks op b = false := by first | exact nomark _ | rfl) : DE X W (.Compare a [op] [b] pos) (tOp r ta tb) (uOp o ua ub) :=
  ⟨pe_cmpR h.op ha.pe hb.pe hm, snd_op h.snd ha.snd hb.snd⟩
/-- one rule or the other -/
def rOr (r r' : R2) : R2 := fun x y H Q => r x y H Q ∨ r' x y H Q
theorem opOr {f : Value → Value → Sem Value} {r r' : R2} (h : OpR X f r) (h' : OpR X f r') : OpR X f (rOr r r') := fun pins s σ H x y v u Q I rx ry q => q.elim (fun q => h pins s σ H x y v u Q I rx ry q) fun q => h' pins s σ H x y v u Q I rx ry q

def iP (k : D → D → (U → Prop) → Prop) : Op2 := k
/-! #### ints -/
def oI (g : Int → Int → D) : Op2 := fun x y P => match x, y with
  | .int i, .int j => P (.d (g i j))
  | _, _ => False
def oIC (C : Int → Int → Prop) (g : Int → Int → D) : Op2 := fun x y P => match x, y with
  | .int i, .int j => C i j ∧ P (.d (g i j))
  | _, _ => False
theorem sr_I {K : Fr} {g : Int → Int → V} {g' : Int → Int → D} (hg : ∀ F i j, Dp K F (g i j) (g' i j)) : SndR K (rI0 g) (oI g') := by
  intro R F H x y dx dy P Q ok h1 h2 h c
  cases h1 <;> cases h2 <;> first | exact h.elim | skip
  exact ⟨_, _, rfl, rfl, c _ (.d _) F H ok.refl (hg F _ _) h⟩
theorem sr_IC {K : Fr} {C C' : Int → Int → Prop} {g : Int → Int → V} {g' : Int → Int → D} (hC : ∀ i j, C' i j → C i j) (hg : ∀ F i j, C' i j → Dp K F (g i j) (g' i j)) : SndR K (rI C g) (oIC C' g') := by
  intro R F H x y dx dy P Q ok h1 h2 h c
  cases h1 <;> cases h2 <;> first | exact h.elim | skip
  exact ⟨_, _, rfl, rfl, hC _ _ h.1, c _ (.d _) F H ok.refl (hg F _ _ h.1) h.2⟩
theorem do_sub : DO X (binaryOp .Sub) (rI0 fun i j => .int (i - j)) (oI fun i j => .int (i - j)) := ⟨op_sub, sr_I fun _ _ _ => .int _⟩
theorem do_lt : DO X (compareOp .Lt) (rI0 fun i j => .bl (decide (i < j))) (oI fun i j => .bool (decide (i < j))) := ⟨op_lt, sr_I fun _ _ _ => .bl _⟩
theorem do_le : DO X (compareOp .LtE) (rI0 fun i j => .bl (decide (i ≤ j))) (oI fun i j => .bool (decide (i ≤ j))) := ⟨op_le, sr_I fun _ _ _ => .bl _⟩
theorem do_gt : DO X (compareOp .Gt) (rI0 fun i j => .bl (decide (j < i))) (oI fun i j => .bool (decide (j < i))) := ⟨op_gt, sr_I fun _ _ _ => .bl _⟩
theorem do_ge : DO X (compareOp .GtE) (rI0 fun i j => .bl (decide (j ≤ i))) (oI fun i j => .bool (decide (j ≤ i))) := ⟨op_ge, sr_I fun _ _ _ => .bl _⟩
/-- by a divisor that is positive -/
theorem do_mod : DO X (binaryOp .Mod) (rI (fun _ j => 0 < j) fun i j => .int (i % j)) (oIC (fun _ j => 0 < j) fun i j => .int (i % j)) := ⟨op_mod, sr_IC (fun _ _ h => h) fun _ _ _ _ => .int _⟩
theorem do_fdiv : DO X (binaryOp .FloorDiv) (rI CDivW fun i j => .int (i / j)) (oIC CDivW fun i j => .int (i / j)) := ⟨op_fdivW, sr_IC (fun _ _ h => h) fun _ _ _ _ => .int _⟩
theorem do_pow : DO X (binaryOp .Pow) (rI CPow fun i j => .int (i ^ j.toNat)) (oIC CPow fun i j => .int (i ^ j.toNat)) := ⟨op_pow, sr_IC (fun _ _ h => h) fun _ _ _ _ => .int _⟩
theorem do_bor : DO X (binaryOp .BitOr) (rI0 fun i j => .int (Builtin.bitOr i j)) (oI fun i j => .int (Builtin.bitOr i j)) := ⟨op_or, sr_I fun _ _ _ => .int _⟩
theorem do_band : DO X (binaryOp .BitAnd) (rI0 fun i j => .int (Builtin.bitAnd i j)) (oI fun i j => .int (Builtin.bitAnd i j)) := ⟨op_and, sr_I fun _ _ _ => .int _⟩
theorem do_shl : DO X (binaryOp .LShift) (rI CPow fun i j => .int (i * 2 ^ j.toNat)) (oIC CPow fun i j => .int (i * 2 ^ j.toNat)) := ⟨op_shl, sr_IC (fun _ _ h => h) fun _ _ _ _ => .int _⟩
theorem do_shr : DO X (binaryOp .RShift) (rI (fun _ j => 0 ≤ j) fun i j => .int (i / 2 ^ j.toNat)) (oIC (fun _ j => 0 ≤ j) fun i j => .int (i / 2 ^ j.toNat)) := ⟨op_shr, sr_IC (fun _ _ h => h) fun _ _ _ _ => .int _⟩
theorem du_neg : DU X (unaryOp .USub) (rU fun i => .int (-i)) (fun x P => match x with | .int i => P (.d (.int (-i))) | _ => False) := ⟨un_neg, by
  intro R F H x dx P Q ok h1 h c
  cases h1 <;> first | exact h.elim | skip
  exact ⟨_, rfl, c _ (.d _) F H ok.refl (.int _) h⟩⟩

/-! #### products: one factor within 2^64, or both together below a million bits -/
def CMulA (i j : Int) : Prop := CMul i j ∨ CMulW i j
theorem op_mulA : OpR X (binaryOp .Mult) (rI CMulA fun i j => .int (i * j)) := fun pins s σ H x y v u Q I rx ry q => by
  obtain ⟨i, j, e1, e2, hc, q⟩ := q
  rcases hc with hc | hc
  · exact op_mul pins s σ H x y v u Q I rx ry ⟨i, j, e1, e2, hc, q⟩
  · exact op_mulW pins s σ H x y v u Q I rx ry ⟨i, j, e1, e2, hc, q⟩
theorem do_mul : DO X (binaryOp .Mult) (rI CMulA fun i j => .int (i * j)) (oIC CMulA fun i j => .int (i * j)) := ⟨op_mulA, sr_IC (fun _ _ h => h) fun _ _ _ _ => .int _⟩

/-! #### + of ints, texts, tuples, lists -/
def rCatG (K : Fr) : R2 := fun x y H Q => ∃ a b xs ys, x = .ref a ∧ y = .ref b ∧ SqL K H a xs ∧ SqL K H b ys ∧ xs.length + ys.length ≤ sizeLine ∧ ∀ p, H p = none → Q (.ref p) (upd H p (.lst (xs ++ ys)))
theorem op_catG : OpR X (binaryOp .Add) (rCatG X.K) := by
  intro pins s σ H x y v u Q I rx ry h
  obtain ⟨a, b, xs, ys, rfl, rfl, ha, hb, hz, q⟩ := h
  cases rx
  cases ry
  obtain ⟨its, r1, ⟨⟨cls, dd, data, sl⟩, n, ho, hc, hdd, hd⟩, _⟩ := I.list ha
  obtain ⟨its2, r2, ⟨⟨cls2, dd2, data2, sl2⟩, n2, ho2, hc2, hdd2, hd2⟩, _⟩ := I.list hb
  simp only at hc hdd hd hc2 hdd2 hd2
  subst hc hdd hd hc2 hdd2 hd2
  have e : its.toArray ++ its2.toArray = (its ++ its2).toArray := by simp
  have l1 := r1.length
  have l2 := r2.length
  refine PySem.concat_meets ⟨_, ho, rfl⟩ ⟨_, ho2, rfl⟩ PySem.noFill_list_add PySem.seq_list_add PySem.F.slot_list_add PySem.F.entry_list_add (PySem.F.args_list_add_2 _ _)
    (PyProof.Rows.list_addW a b its.toArray its2.toArray n n2 _ _ sl sl2 (by rw [List.size_toArray, List.size_toArray]; omega)) ⟨ho, ho2, ?_⟩
  rw [e]
  exact ⟨.ref _, _, I.lnew (t' := s.toks) (r1.append r2) (by rw [List.length_append]; omega), rfl, q _ I.fresh⟩
def rAddS : R2 := fun x y H Q => ∃ i j, x = .str i ∧ y = .str j ∧ i.length + j.length ≤ sizeLine ∧ Q (.str (i ++ j)) H
def rAddG (K : Fr) : R2 := rOr (rI0 fun i j => .int (i + j)) (rOr rAddS (rOr (rCatA K) (rCatG K)))
def oAdd : Op2 := fun x y P => match x, y with
  | .int i, .int j => P (.d (.int (i + j)))
  | .str i, .str j => i.length + j.length ≤ sizeLine ∧ P (.d (.str (i ++ j)))
  | .tuple l, .tuple m => l.length + m.length ≤ sizeLine ∧ P (.d (.tuple (l ++ m)))
  | .list l, .list m => l.length + m.length ≤ sizeLine ∧ P (.own (l ++ m))
  | _, _ => False
theorem DpAll.nil_of {K : Fr} {F : Hp} {l : List D} (h : DpAll K F [] l) : l = [] := by cases h; rfl
theorem do_add : DO X (binaryOp .Add) (rAddG X.K) oAdd := by
  refine ⟨opOr op_add (opOr op_add_str (opOr op_catA op_catG)), ?_⟩
  intro R F H x y dx dy P Q ok h1 h2 h c
  cases h1 <;> cases h2 <;> first | exact h.elim | skip
  · exact .inl ⟨_, _, rfl, rfl, c _ (.d (.int _)) F H ok.refl (.int _) h⟩
  · exact .inr (.inl ⟨_, _, rfl, rfl, h.1, c _ (.d (.str _)) F H ok.refl (.str _) h.2⟩)
  · next a xs l hs ha b ys m hb hc =>
    refine .inr (.inr (.inr ⟨a, b, xs, ys, rfl, rfl, ok.sub.l hs, ok.sub.l hb, by rw [ha.lengthH, hc.lengthH]; exact h.1, fun p hp => ?_⟩))
    have g := ok.lay (o := .lst (xs ++ ys)) hp
    refine c _ (.own (l ++ m)) F _ g ⟨p, _, rfl, upd_same, ha.appendH hc, ?_, hp, fun z => ?_⟩ h.2
    · cases e : F p with
      | none => rfl
      | some u => rw [ok.sub p u e] at hp; cases hp
    · obtain ⟨_, _, _, e, _⟩ := ok.inv p z
      rw [hp] at e; cases e
  · next a xs l hs ha b ys m hb hc =>
    refine .inr (.inr (.inl ⟨a, b, xs, ys, rfl, rfl, ok.sub.t hs, ok.sub.t hb, by rw [ha.lengthH, hc.lengthH]; exact h.1, fun e => ?_, fun _ e => ?_, fun _ _ p hp => ?_⟩))
    · subst e
      have e2 : l = [] := DpAll.nil_of ha
      subst e2
      exact c _ (.d (.tuple m)) F H ok.refl (.tup hb hc) (by simpa using h.2)
    · subst e
      have e2 : m = [] := DpAll.nil_of hc
      subst e2
      exact c _ (.d (.tuple l)) F H ok.refl (.tup hs ha) (by simpa using h.2)
    · have g := ok.frz (o := .tup (xs ++ ys)) hp
      exact c _ (.d (.tuple (l ++ m))) _ _ g (.tup (.inl (.inl upd_same)) ((ha.appendH hc).subH g.ex)) h.2

/-! #### == and its like, of data -/
def oEq (neg : Bool) : Op2 := fun x y P => SeqAt.shaped x = true ∧ SeqAt.shaped y = true ∧ P (.d (.bool (if neg then !PyData.eqv x y else PyData.eqv x y)))
theorem do_eq (hu : X.A.units + 64 < cLine) : DO X (compareOp .Eq) (rEqD X.K) (oEq false) := by
  refine ⟨op_eqD hu, ?_⟩
  intro R F H x y dx dy P Q ok h1 h2 h c
  exact ⟨dx, dy, h1.subH ok.sub, h2.subH ok.sub, h.1, h.2.1, c _ (.d (.bool _)) F H ok.refl (.bl _) h.2.2⟩
theorem do_ne (hu : X.A.units + 64 < cLine) : DO X (compareOp .NotEq) (rNeD X.K) (oEq true) := by
  refine ⟨op_neD hu, ?_⟩
  intro R F H x y dx dy P Q ok h1 h2 h c
  exact ⟨dx, dy, h1.subH ok.sub, h2.subH ok.sub, h.1, h.2.1, c _ (.d (.bool _)) F H ok.refl (.bl _) h.2.2⟩
/-- is None -/
def isN : D → Bool
  | .none => true
  | _ => false
def oIsN (neg : Bool) : Op2 := fun x y P => match y with
  | .none => P (.d (.bool (if neg then !isN x else isN x)))
  | _ => False
theorem dec_isN {K : Fr} {F : Hp} {v : V} {x : D} (h : Dp K F v x) : decide (v = .non) = isN x := by
  cases h <;> simp [isN]
theorem do_isN : DO X (compareOp .Is) (fun x y H Q => y = .non ∧ Q (.bl (decide (x = .non))) H) (oIsN false) := by
  refine ⟨op_isN, ?_⟩
  intro R F H x y dx dy P Q ok h1 h2 h c
  cases h2 <;> first | exact h.elim | skip
  refine ⟨rfl, ?_⟩
  rw [dec_isN h1]
  exact c _ (.d (.bool _)) F H ok.refl (.bl _) h
theorem do_notN : DO X (compareOp .IsNot) (fun x y H Q => y = .non ∧ Q (.bl (!decide (x = .non))) H) (oIsN true) := by
  refine ⟨op_notN, ?_⟩
  intro R F H x y dx dy P Q ok h1 h2 h c
  cases h2 <;> first | exact h.elim | skip
  refine ⟨rfl, ?_⟩
  rw [dec_isN h1]
  exact c _ (.d (.bool _)) F H ok.refl (.bl _) h

/-! ### truth -/
def truD : D → Bool
  | .none => false
  | .bool b => b
  | .int i => i != 0
  | .str y => (y.length : Int) != 0
  | .list l => !l.isEmpty
  | .tuple l => !l.isEmpty
  | .dict _ => false
def szD : D → Prop
  | .str y => y.length ≤ sizeLine
  | _ => True
theorem tru_of {K : Fr} {F H : Hp} {v : V} {x : D} (s : Sub F H) (h : Dp K F v x) (z : szD x) : TruV K v H (truD x) := by
  cases h with
  | non => rfl
  | bl b => rfl
  | int i => rfl
  | str y => exact ⟨z, rfl⟩
  | @lst a xs l hs ha => exact .inl ⟨xs, s.l hs, by have := ha.lengthH; cases xs <;> cases l <;> simp_all [truD]⟩
  | @tup a xs l hs ha => exact .inr (.inl ⟨xs, s.t hs, by have := ha.lengthH; cases xs <;> cases l <;> simp_all [truD]⟩)
/-- what follows a result by its truth -/
def onT (r : U) (k : Bool → Prop) : Prop := onD r fun x => szD x ∧ k (truD x)
def uTru (u : UE) : UT := fun s P PX => u s (fun r => onT r P) PX
theorem dt_tru (ha : DE X W a ta ua) (he : ∀ whole, isTrue a X.env whole = (do let v ← whole; standAt a.pos; holding [v] (truthy v)) := by intro _; rfl) : DT X W a (fun σ H Q => ta σ H fun x H' => ∃ k, TruV X.K x H' k ∧ Q k H') (uTru ua) := by
  refine ⟨pt_truth ha.pe he, ?_⟩
  intro R F H σ s P PX Q rd ok h c o
  refine ha.snd.dat rd ok h (fun v x F1 H1 g d q => ⟨_, tru_of g.ok.sub d q.1, c _ F1 H1 g q.2⟩) o
def uNot (t : UT) : UT := fun s P PX => t s (fun b => P (!b)) PX
theorem dt_not {t : TT} {u : UT} (h : DT X W a t u) : DT X W (.UnaryOp .Not a pos) (tNot t) (uNot u) :=
  ⟨pt_not h.pt, fun R F H σ s P PX Q rd ok q c o => h.snd R F H σ s _ PX _ rd ok q (fun b F1 H1 g p => c (!b) F1 H1 g p) o⟩
/-- a test that is part of and, or -/
structure DW (X : Cx) (W : WX) (e : Expr) (t : TT) (u : UT) : Prop where
  pw : PW X e t
  snd : SndT X.K W t u
theorem DW.dt {t : TT} {u : UT} (h : DW X W e t u) : DT X W e t u := ⟨h.pw.pt, h.snd⟩
def uAnd (t u : UT) : UT := fun s P PX => t s (fun b => if b = true then u s P PX else P false) PX
def uOr (t u : UT) : UT := fun s P PX => t s (fun b => if b = true then P true else u s P PX) PX
theorem snd_and {K : Fr} {t t' : TT} {u u' : UT} (h : SndT K W t u) (h' : SndT K W t' u') : SndT K W (tAnd t t') (uAnd u u') := fun R F H σ s P PX Q rd ok q c o =>
  h R F H σ s _ PX _ rd ok q (fun b F1 H1 g p => by
    cases b with
    | true => exact h' R F1 H1 σ s P PX Q (rd.sub g.ex) g.ok p (fun b2 F2 H2 g2 p2 => c b2 F2 H2 (g.trans g2) p2) (o.step g)
    | false => exact c false F1 H1 g p) o
theorem snd_or {K : Fr} {t t' : TT} {u u' : UT} (h : SndT K W t u) (h' : SndT K W t' u') : SndT K W (tOr t t') (uOr u u') := fun R F H σ s P PX Q rd ok q c o =>
  h R F H σ s _ PX _ rd ok q (fun b F1 H1 g p => by
    cases b with
    | false => exact h' R F1 H1 σ s P PX Q (rd.sub g.ex) g.ok p (fun b2 F2 H2 g2 p2 => c b2 F2 H2 (g.trans g2) p2) (o.step g)
    | true => exact c true F1 H1 g p) o
theorem dw_and {t t' : TT} {u u' : UT} {rest : List Expr} (h : DT X W a t u) (h' : DW X W (.BoolOp .And (b :: rest) pos) t' u') : DW X W (.BoolOp .And (a :: b :: rest) pos) (tAnd t t') (uAnd u u') := ⟨pw_and h.pt h'.pw, snd_and h.snd h'.snd⟩
theorem dw_and1 {t : TT} {u : UT} (h : DT X W a t u) : DW X W (.BoolOp .And [a] pos) t u := ⟨pw_and1 h.pt, h.snd⟩
theorem dw_or {t t' : TT} {u u' : UT} {rest : List Expr} (h : DT X W a t u) (h' : DW X W (.BoolOp .Or (b :: rest) pos) t' u') : DW X W (.BoolOp .Or (a :: b :: rest) pos) (tOr t t') (uOr u u') := ⟨pw_or h.pt h'.pw, snd_or h.snd h'.snd⟩
theorem dw_or1 {t : TT} {u : UT} (h : DT X W a t u) : DW X W (.BoolOp .Or [a] pos) t u := ⟨pw_or1 h.pt, h.snd⟩
/-! ### and, or, not as values -/
def uAndV (ua ub : UE) : UE := fun s P PX => ua s (fun r => onD r fun x => szD x ∧ if truD x = true then ub s P PX else P (.d x)) PX
def uOrV (ua ub : UE) : UE := fun s P PX => ua s (fun r => onD r fun x => szD x ∧ if truD x = true then P (.d x) else ub s P PX) PX
def uNotV (ua : UE) : UE := fun s P PX => ua s (fun r => onD r fun x => szD x ∧ P (.d (.bool (!truD x)))) PX
theorem de_and {rest : List Expr} (h : DE X W a ta ua) (h' : DE X W (.BoolOp .And (b :: rest) pos) tb ub) : DE X W (.BoolOp .And (a :: b :: rest) pos) (tAndT X.K ta tb) (uAndV ua ub) := by
  refine ⟨pe_andT h.pe h'.pe, fun R F H σ s P PX Q rd ok q c o => ?_⟩
  refine h.snd.dat rd ok q (fun v x F1 H1 g d q => ⟨_, tru_of g.ok.sub d q.1, ?_⟩) o
  have q2 := q.2
  by_cases e : truD x = true
  · rw [if_pos e] at q2 ⊢
    exact h'.snd R F1 H1 σ s P PX Q (rd.sub g.ex) g.ok q2 (fun v r F2 H2 g2 rep p => c v r F2 H2 (g.trans g2) (rep.back g) p) (o.step g)
  · rw [if_neg e] at q2 ⊢
    exact c v (.d x) F1 H1 g d q2
theorem de_or {rest : List Expr} (h : DE X W a ta ua) (h' : DE X W (.BoolOp .Or (b :: rest) pos) tb ub) : DE X W (.BoolOp .Or (a :: b :: rest) pos) (tOrT X.K ta tb) (uOrV ua ub) := by
  refine ⟨pe_orT h.pe h'.pe, fun R F H σ s P PX Q rd ok q c o => ?_⟩
  refine h.snd.dat rd ok q (fun v x F1 H1 g d q => ⟨_, tru_of g.ok.sub d q.1, ?_⟩) o
  have q2 := q.2
  by_cases e : truD x = true
  · rw [if_pos e] at q2 ⊢
    exact c v (.d x) F1 H1 g d q2
  · rw [if_neg e] at q2 ⊢
    exact h'.snd R F1 H1 σ s P PX Q (rd.sub g.ex) g.ok q2 (fun v r F2 H2 g2 rep p => c v r F2 H2 (g.trans g2) (rep.back g) p) (o.step g)
theorem de_one {op : BoolOp} (h : DE X W a ta ua) : DE X W (.BoolOp op [a] pos) ta ua := ⟨pe_one h.pe, h.snd⟩
theorem de_not (h : DE X W a ta ua) : DE X W (.UnaryOp .Not a pos) (tNotT X.K ta) (uNotV ua) := by
  refine ⟨pe_notT h.pe, fun R F H σ s P PX Q rd ok q c o => ?_⟩
  exact h.snd.dat rd ok q (fun v x F1 H1 g d q => ⟨_, tru_of g.ok.sub d q.1, c _ (.d (.bool _)) F1 H1 g (.bl _) q.2⟩) o
def uIf (t : UT) (ua ub : UE) : UE := fun s P PX => t s (fun k => if k = true then ua s P PX else ub s P PX) PX
theorem de_if {t : TT} {u : UT} (h : DT X W c t u) (ha : DE X W a ta ua) (hb : DE X W b tb ub) : DE X W (.IfExp c a b pos) (tIf t ta tb) (uIf u ua ub) := by
  refine ⟨pe_ifExp h.pt ha.pe hb.pe, fun R F H σ s P PX Q rd ok q k o => h.snd R F H σ s _ PX _ rd ok q (fun z F1 H1 g p => ?_) o⟩
  cases z with
  | true => exact ha.snd R F1 H1 σ s P PX Q (rd.sub g.ex) g.ok p (fun v r F2 H2 g2 rep p => k v r F2 H2 (g.trans g2) (rep.back g) p) (o.step g)
  | false => exact hb.snd R F1 H1 σ s P PX Q (rd.sub g.ex) g.ok p (fun v r F2 H2 g2 rep p => k v r F2 H2 (g.trans g2) (rep.back g) p) (o.step g)
end
end Pl

namespace Pl
open PySem L2
section
variable {X : Cx} {W : WX} {e a b c : Expr} {es : List Expr} {ta tb tc te : TE} {ua ub uc u : UE} {t : TA} {ut : UA} {pos p : Pos}
/-! ### argument lists and displays -/
def uNil : UA := fun _ P _ => P []
def argU : U → U
  | .d x => .d x
  | .own l => .d (.list l)
  | .hold V => .hold V
  | .exc a dd fs => .exc a dd fs
def uCons (u : UE) (us : UA) : UA := fun s P PX => u s (fun r => us s (fun rs => P (argU r :: rs)) PX) PX
theorem da_nil : DA X W [] tNil uNil := ⟨pa_nil, fun R F H σ s P PX Q rd ok q c o => c [] [] F H ok.refl trivial q⟩
theorem RepR.arg {K : Fr} {R : Rg} {F H F' H' : Hp} {v : V} {r : U} (g : Gr K R F H F' H') (h : RepR K R H F' H' v r) : ∃ F'', Gr K R F H F'' H' ∧ RepA K R F'' v (argU r) := by
  cases r with
  | d x => exact ⟨F', g, h⟩
  | hold V => exact ⟨F', g, h⟩
  | exc a dd fs => exact ⟨F', g, h⟩
  | own l =>
    obtain ⟨F2, x, g2, d2, e⟩ := RepR.frz (k := fun y => y = .list l) g h rfl
    subst e
    exact ⟨F2, g2, d2⟩
theorem da_cons (h : DE X W e te u) (hr : DA X W es t ut) (hs : starEach (e :: es) X.env = (false, eval e X.env) :: starEach es X.env := by rfl) : DA X W (e :: es) (tCons te t) (uCons u ut) := by
  refine ⟨pa_cons h.pe hr.pa hs, fun R F H σ s P PX Q rd ok q c o => ?_⟩
  refine h.snd R F H σ s _ PX _ rd ok q (fun v r F1 H1 g rep q1 => ?_) o
  obtain ⟨F2, g2, ra⟩ := rep.arg g
  refine hr.snd R F2 H1 σ s _ PX _ (rd.sub g2.ex) g2.ok q1 (fun vs rs F3 H3 g3 ras q3 => ?_) (o.step g2)
  exact c (v :: vs) (argU r :: rs) F3 H3 (g2.trans g3) ⟨ra.sub g3.ex, ras⟩ q3
/-- arguments that are data -/
def allD : List U → Option (List D)
  | [] => some []
  | .d x :: rs => (allD rs).map (x :: ·)
  | _ :: _ => none
def onDs (rs : List U) (k : List D → Prop) : Prop := match allD rs with
  | some l => k l
  | none => False
theorem RepAs.data {K : Fr} {R : Rg} {F : Hp} : ∀ {vs : List V} {rs : List U} {l : List D}, RepAs K R F vs rs → allD rs = some l → DpAll K F vs l
  | [], [], l, _, e => by cases e; exact .nil
  | v :: vs, .d x :: rs, l, h, e => by
    obtain ⟨l', e', rfl⟩ := Option.map_eq_some_iff.mp e
    exact .cons h.1 (RepAs.data h.2 e')
  | _ :: _, .own _ :: _, _, h, _ => h.1.elim
  | _ :: _, .hold _ :: _, _, _, e => by cases e
  | _ :: _, .exc _ _ _ :: _, _, _, e => by cases e
  | [], _ :: _, _, h, _ => h.elim
  | _ :: _, [], _, h, _ => h.elim
def uTup (ut : UA) : UE := fun s P PX => ut s (fun rs => onDs rs fun l => l.length ≤ sizeLine ∧ P (.d (.tuple l))) PX
def uLst (ut : UA) : UE := fun s P PX => ut s (fun rs => onDs rs fun l => l.length ≤ sizeLine ∧ P (.own l)) PX
theorem de_tup {x1} (h : DA X W es t ut) : DE X W (.Tuple es x1 pos) (tTup t) (uTup ut) := by
  refine ⟨pe_tup h.pa, fun R F H σ s P PX Q rd ok q c o => ?_⟩
  refine h.snd R F H σ s _ PX _ rd ok q (fun vs rs F1 H1 g ras q1 => ?_) o
  unfold onDs at q1
  split at q1
  · next l hl =>
    have d := ras.data hl
    refine ⟨by rw [d.lengthH]; exact q1.1, fun p hp => ?_⟩
    have g2 := g.ok.frz (o := .tup vs) hp
    exact c _ (.d (.tuple l)) _ _ (g.trans g2) (.tup (.inl (.inl upd_same)) (d.subH g2.ex)) q1.2
  · exact q1.elim
theorem Ok.own {K : Fr} {R : Rg} {F H : Hp} {p : Addr} {xs : List V} {l : List D} (ok : Ok K R F H) (hp : H p = none) (d : DpAll K F xs l) : Gr K R F H F (upd H p (.lst xs)) ∧ RepR K R H F (upd H p (.lst xs)) (.ref p) (.own l) := by
  refine ⟨ok.lay hp, p, xs, rfl, upd_same, d, ?_, hp, fun z => ?_⟩
  · cases e : F p with
    | none => rfl
    | some u => rw [ok.sub p u e] at hp; cases hp
  · obtain ⟨_, _, _, e, _⟩ := ok.inv p z
    rw [hp] at e; cases e
theorem de_lst (h : DA X W es t ut) : DE X W (.List es pos) (tLst t) (uLst ut) := by
  refine ⟨pe_lst h.pa, fun R F H σ s P PX Q rd ok q c o => ?_⟩
  refine h.snd R F H σ s _ PX _ rd ok q (fun vs rs F1 H1 g ras q1 => ?_) o
  unfold onDs at q1
  split at q1
  · next l hl =>
    have d := ras.data hl
    refine ⟨by rw [d.lengthH]; exact q1.1, fun p hp => ?_⟩
    obtain ⟨g2, rep⟩ := g.ok.own hp d
    exact c _ (.own l) _ _ (g.trans g2) (rep.back g) q1.2
  · exact q1.elim

/-! ### subscripts -/
def atD (l : List D) (i : Int) : Option D := atI l i
def oIx : Op2 := fun x y P => match y with
  | .int i => match x with
    | .list l => match atI l i with
      | some z => P (.d z)
      | none => False
    | .tuple l => match atI l i with
      | some z => P (.d z)
      | none => False
    | _ => False
  | _ => False
def rIxS2 (K : Fr) : R2 := rOr (rIxL K) (rIxT K)
theorem ixOr {r r' : R2} (h : IxR X r) (h' : IxR X r') : IxR X (rOr r r') := fun value slice pins s σ H x y v u Q I rx ry q => q.elim (fun q => h value slice pins s σ H x y v u Q I rx ry q) fun q => h' value slice pins s σ H x y v u Q I rx ry q
theorem DpAll.at_ {K : Fr} {F : Hp} {vs : List V} {l : List D} {i : Int} {z : D} (h : DpAll K F vs l) (e : atI l i = some z) : ∃ v, atI vs i = some v ∧ Dp K F v z := by
  unfold atI at e ⊢
  rw [h.lengthH]
  cases k : ixN l.length i with
  | none => rw [k] at e; cases e
  | some j =>
    rw [k] at e
    obtain ⟨v, h1, h2⟩ := h.getH (i := j) (show l[j]? = some z from e)
    exact ⟨v, h1, h2⟩
theorem snd_ix {K : Fr} : SndR K (rIxS2 K) oIx := by
  intro R F H x y dx dy P Q ok h1 h2 h c
  unfold oIx at h
  cases h2 with
  | int i =>
    cases h1 with
    | @lst a xs l hs ha =>
      dsimp only at h
      split at h
      · next z hz =>
        obtain ⟨v, e, d⟩ := DpAll.at_ ha hz
        exact .inl ⟨a, xs, i, v, rfl, rfl, ok.sub.l hs, e, c v (.d z) F H ok.refl d h⟩
      · exact h.elim
    | @tup a xs l hs ha =>
      dsimp only at h
      split at h
      · next z hz =>
        obtain ⟨v, e, d⟩ := DpAll.at_ ha hz
        exact .inr ⟨a, xs, i, v, rfl, rfl, ok.sub.t hs, e, c v (.d z) F H ok.refl d h⟩
      · exact h.elim
    | _ => exact h.elim
  | _ => exact h.elim
theorem de_ix (ha : DE X W a ta ua) (hb : DE X W b tb ub) (hs : PlainIx b := by intro _ _; rfl) : DE X W (.Subscript a b pos) (tOp (rIxS2 X.K) ta tb) (uOp oIx ua ub) := ⟨pe_ix (ixOr ix_list ix_tup) ha.pe hb.pe hs, snd_op snd_ix ha.snd hb.snd⟩
/-! ### slices -/
abbrev UO := Sl → (Option Int → Prop) → (Ex → Prop) → Prop
def SndO (K : Fr) (W : WX) (t : TO) (u : UO) : Prop := ∀ (R : Rg) (F H : Hp) (σ : St) (s : Sl) (P : Option Int → Prop) (PX : Ex → Prop) (Q : Option Int → Hp → Prop), RepD K R F σ s → Ok K R F H → u s P PX →
  (∀ i F' H', Gr K R F H F' H' → P i → Q i H') → Out K W R F H σ PX → t σ H Q
structure DOp (X : Cx) (W : WX) (e : Option Expr) (t : TO) (u : UO) : Prop where
  po : PO X e t
  snd : SndO X.K W t u
def uNoP : UO := fun _ P _ => P none
def uPart (u : UE) : UO := fun s P PX => u s (fun r => onD r fun x => match x with | .int i => P (some i) | _ => False) PX
theorem do_none : DOp X W none tNoPart uNoP := ⟨po_none, fun R F H σ s P PX Q rd ok q c o => c none F H ok.refl q⟩
theorem do_some (h : DE X W e te u) : DOp X W (some e) (tPart te) (uPart u) := by
  refine ⟨po_some h.pe, fun R F H σ s P PX Q rd ok q c o => ?_⟩
  refine h.snd.dat rd ok q (fun v x F1 H1 g d q => ?_) o
  cases d <;> first | exact q.elim | skip
  exact ⟨_, rfl, c _ F1 H1 g q⟩
def rSlG (K : Fr) : V → Option Int → Option Int → Hp → VK → Prop := fun x lo hi H Q => rSlL K x lo hi H Q ∨ rSlA K x lo hi H Q
theorem slOr {r r' : V → Option Int → Option Int → Hp → VK → Prop} (h : SlR X r) (h' : SlR X r') : SlR X (fun x lo hi H Q => r x lo hi H Q ∨ r' x lo hi H Q) := fun pins s σ H x v vl vu lo hi sl Q I rx hs pl pu q =>
  q.elim (fun q => h pins s σ H x v vl vu lo hi sl Q I rx hs pl pu q) fun q => h' pins s σ H x v vl vu lo hi sl Q I rx hs pl pu q
def cutD (l : List D) (lo hi : Option Int) : List D := (l.drop (HT.sIx l.length 0 lo)).take (HT.sIx l.length l.length hi - HT.sIx l.length 0 lo)
theorem DpAll.cut {K : Fr} {F : Hp} {vs : List V} {l : List D} {lo hi : Option Int} (h : DpAll K F vs l) : DpAll K F (cutV vs lo hi) (cutD l lo hi) := by
  unfold cutV cutD
  rw [h.lengthH]
  exact (h.dropH _).takeH _
def oSl (lo hi : Option Int) : Op1 := fun x P => match x with
  | .list l => P (.own (cutD l lo hi))
  | .tuple l => P (.d (.tuple (cutD l lo hi)))
  | _ => False
def uSl (u : UE) (ul uh : UO) : UE := fun s P PX => u s (fun r => onD r fun x => ul s (fun lo => uh s (fun hi => oSl lo hi x P) PX) PX) PX
theorem cut_whole {l : List D} {lo hi : Option Int} (h : HT.sIx l.length 0 lo = 0 ∧ HT.sIx l.length l.length hi = l.length) : cutD l lo hi = l := by
  unfold cutD
  rw [h.1, h.2]
  simp
theorem de_slice {lo hi : Option Expr} {tl th : TO} {ul uh : UO} {p2} (h : DE X W e te u) (hl : DOp X W lo tl ul) (hh : DOp X W hi th uh) : DE X W (.Subscript e (.Slice lo hi none p2) pos) (tSl (rSlG X.K) te tl th) (uSl u ul uh) := by
  refine ⟨pe_slice (slOr sl_list sl_tupA) h.pe hl.po hh.po, fun R F H σ s P PX Q rd ok q c o => ?_⟩
  refine h.snd.dat rd ok q (fun v x F1 H1 g d q => ?_) o
  refine hl.snd R F1 H1 σ s _ PX _ (rd.sub g.ex) g.ok q (fun i F2 H2 g2 q => ?_) (o.step g)
  refine hh.snd R F2 H2 σ s _ PX _ (rd.sub (g.trans g2).ex) g2.ok q (fun j F3 H3 g3 q => ?_) ((o.step g).step g2)
  have g4 := (g.trans g2).trans g3
  have d3 := d.subH (g2.trans g3).ex
  cases d3 with
  | @lst a xs l hs ha =>
    refine .inl ⟨a, xs, rfl, g4.ok.sub.l hs, fun p hp => ?_⟩
    obtain ⟨g5, rep⟩ := g4.ok.own hp (DpAll.cut (lo := i) (hi := j) ha)
    exact c _ (.own _) _ _ (g4.trans g5) (rep.back g4) q
  | @tup a xs l hs ha =>
    refine .inr ⟨a, xs, rfl, g4.ok.sub.t hs, fun hw => ?_, fun hw p hp => ?_⟩
    · rw [ha.lengthH] at hw
      refine c _ (.d (.tuple l)) _ _ g4 (.tup hs ha) ?_
      have q' : P (.d (.tuple (cutD l i j))) := q
      rw [cut_whole hw] at q'
      exact q'
    · have g5 := g4.ok.frz (o := .tup (cutV xs i j)) hp
      exact c _ (.d (.tuple (cutD l i j))) _ _ (g4.trans g5) (.tup (.inl (.inl upd_same)) ((DpAll.cut ha).subH g5.ex)) q
  | _ => exact q.elim

/-! ### built-in functions of data -/
abbrev OpL := List D → (U → Prop) → Prop
def SndC (K : Fr) (r : List V → Hp → VK → Prop) (o : OpL) : Prop := ∀ (R : Rg) (F H : Hp) (vs : List V) (l : List D) (P : U → Prop) (Q : VK), Ok K R F H → DpAll K F vs l → o l P →
  (∀ v r F' H', Gr K R F H F' H' → RepR K R H F' H' v r → P r → Q v H') → r vs H Q
def uCB (o : OpL) (ut : UA) : UE := fun s P PX => ut s (fun rs => onDs rs fun l => o l P) PX
structure DC (X : Cx) (f : Value) (r : List V → Hp → VK → Prop) (o : OpL) : Prop where
  op : CallR X f r
  snd : SndC X.K r o
theorem snd_cb {K : Fr} {r : List V → Hp → VK → Prop} {o : OpL} (h : SndC K r o) (ha : SndA K W t ut) : SndE K W (tCB r t) (uCB o ut) := by
  intro R F H σ s P PX Q rd ok q c out
  refine ha R F H σ s _ PX _ rd ok q (fun vs rs F1 H1 g ras q1 => ?_) out
  unfold onDs at q1
  split at q1
  · next l hl => exact h R F1 H1 vs l P Q g.ok (ras.data hl) q1 fun v r F2 H2 g2 rep p => c v r F2 H2 (g.trans g2) (rep.back g) p
  · exact q1.elim
theorem de_callB {id : String} {x : Str} {r : List V → Hp → VK → Prop} {o : OpL} (h : DC X (.builtin id) r o) (hg : Gl X x) (hm : X.mg x = none) (hv : bootBuiltins x = some (.builtin id)) (ha : DA X W (e :: es) t ut) (hn : x ≠ "__name__" := by decide) (hdb : (x == ("__debug__" : Str)) = false := by decide)
    (he : starEach (e :: es) X.env = (false, eval e X.env) :: starEach es X.env := by rfl) (hpl : (backTo pos (starEach es X.env)).any (·.1) = false := by rfl) : DE X W (.Call (.Name x p) (e :: es) [] pos) (tCB r t) (uCB o ut) :=
  ⟨pe_callB h.op hg hm hv ha.pa hn hdb he hpl, snd_cb h.snd ha.snd⟩
theorem de_callTy {T : String} {x : Str} {r : List V → Hp → VK → Prop} {o : OpL} (h : DC X (.type T) r o) (hg : Gl X x) (hm : X.mg x = none) (hv : bootBuiltins x = some (.type T)) (ha : DA X W (e :: es) t ut) (hn : x ≠ "__name__" := by decide) (hdb : (x == ("__debug__" : Str)) = false := by decide)
    (he : starEach (e :: es) X.env = (false, eval e X.env) :: starEach es X.env := by rfl) (hpl : (backTo pos (starEach es X.env)).any (·.1) = false := by rfl) : DE X W (.Call (.Name x p) (e :: es) [] pos) (tCB r t) (uCB o ut) :=
  ⟨pe_callTy h.op hg hm hv ha.pa hn hdb he hpl, snd_cb h.snd ha.snd⟩
def cOr (r r' : List V → Hp → VK → Prop) : List V → Hp → VK → Prop := fun xs H Q => r xs H Q ∨ r' xs H Q
theorem callOr {f : Value} {r r' : List V → Hp → VK → Prop} (h : CallR X f r) (h' : CallR X f r') : CallR X f (cOr r r') := fun pins s σ H xs us Q I r q => q.elim (fun q => h pins s σ H xs us Q I r q) fun q => h' pins s σ H xs us Q I r q
/-- len -/
def oLen : OpL := fun l P => match l with
  | [.list m] => P (.d (.int m.length))
  | [.tuple m] => P (.d (.int m.length))
  | [.str z] => z.length ≤ sizeLine ∧ P (.d (.int z.length))
  | _ => False
def rLenA (K : Fr) : List V → Hp → VK → Prop := cOr (fun xs H Q => ∃ p ys, xs = [.ref p] ∧ (SqL K H p ys ∨ SqT K H p ys) ∧ Q (.int ys.length) H) (fun xs H Q => ∃ z, xs = [.str z] ∧ z.length ≤ sizeLine ∧ Q (.int z.length) H)
theorem dc_len : DC X (.builtin "len") (rLenA X.K) oLen := by
  refine ⟨callOr call_len_seq call_len_str, ?_⟩
  intro R F H vs l P Q ok h q c
  unfold oLen at q
  split at q
  · cases h with | cons h1 h2 => cases h2; cases h1 with | @lst a xs _ hs ha => exact .inl ⟨a, xs, rfl, .inl (ok.sub.l hs), by rw [ha.lengthH]; exact c _ (.d (.int _)) F H ok.refl (.int _) q⟩
  · cases h with | cons h1 h2 => cases h2; cases h1 with | @tup a xs _ hs ha => exact .inl ⟨a, xs, rfl, .inr (ok.sub.t hs), by rw [ha.lengthH]; exact c _ (.d (.int _)) F H ok.refl (.int _) q⟩
  · cases h with | cons h1 h2 => cases h2; cases h1; exact .inr ⟨_, rfl, q.1, c _ (.d (.int _)) F H ok.refl (.int _) q.2⟩
  · exact q.elim
/-- list(xs), tuple(xs) -/
def oList : OpL := fun l P => match l with
  | [.list m] => P (.own m)
  | [.tuple m] => P (.own m)
  | _ => False
def rListA (K : Fr) : List V → Hp → VK → Prop := fun xs H Q => ∃ p ys, xs = [.ref p] ∧ (SqL K H p ys ∨ SqT K H p ys) ∧ ∀ l, H l = none → Q (.ref l) (upd H l (.lst ys))
theorem dc_list : DC X (.type "list") (rListA X.K) oList := by
  refine ⟨call_list_of, ?_⟩
  intro R F H vs l P Q ok h q c
  unfold oList at q
  split at q
  · cases h with
    | cons h1 h2 =>
      cases h2
      cases h1 with
      | @lst a xs _ hs ha =>
        refine ⟨a, xs, rfl, .inl (ok.sub.l hs), fun p hp => ?_⟩
        obtain ⟨g, rep⟩ := ok.own hp ha
        exact c _ (.own _) _ _ g rep q
  · cases h with
    | cons h1 h2 =>
      cases h2
      cases h1 with
      | @tup a xs _ hs ha =>
        refine ⟨a, xs, rfl, .inr (ok.sub.t hs), fun p hp => ?_⟩
        obtain ⟨g, rep⟩ := ok.own hp ha
        exact c _ (.own _) _ _ g rep q
  · exact q.elim
def oTuple : OpL := fun l P => match l with
  | [.list m] => P (.d (.tuple m))
  | [.tuple m] => P (.d (.tuple m))
  | _ => False
def rTupA (K : Fr) : List V → Hp → VK → Prop := fun xs H Q => ∃ p ys, xs = [.ref p] ∧ ((SqL K H p ys ∧ ∀ l, H l = none → Q (.ref l) (upd H l (.tup ys))) ∨ (SqT K H p ys ∧ Q (.ref p) H))
theorem dc_tuple : DC X (.type "tuple") (rTupA X.K) oTuple := by
  refine ⟨call_tuple_of, ?_⟩
  intro R F H vs l P Q ok h q c
  unfold oTuple at q
  split at q
  · cases h with
    | cons h1 h2 =>
      cases h2
      cases h1 with
      | @lst a xs m hs ha =>
        refine ⟨a, xs, rfl, .inl ⟨ok.sub.l hs, fun p hp => ?_⟩⟩
        have g := ok.frz (o := .tup xs) hp
        exact c _ (.d (.tuple _)) _ _ g (.tup (.inl (.inl upd_same)) (ha.subH g.ex)) q
  · cases h with
    | cons h1 h2 =>
      cases h2
      cases h1 with
      | @tup a xs m hs ha => exact ⟨a, xs, rfl, .inr ⟨ok.sub.t hs, c _ (.d (.tuple _)) F H ok.refl (.tup hs ha) q⟩⟩
  · exact q.elim
/-- int of an int, of a bool -/
def oInt : OpL := fun l P => match l with
  | [.int i] => P (.d (.int i))
  | [.bool k] => P (.d (.int (if k then 1 else 0)))
  | _ => False
def rIntA : List V → Hp → VK → Prop := fun xs H Q => (∃ i, xs = [.int i] ∧ Q (.int i) H) ∨ ∃ k, xs = [.bl k] ∧ Q (.int (if k then 1 else 0)) H
theorem dc_int : DC X (.type "int") rIntA oInt := by
  refine ⟨call_int1, ?_⟩
  intro R F H vs l P Q ok h q c
  unfold oInt at q
  split at q
  · cases h with | cons h1 h2 => cases h2; cases h1; exact .inl ⟨_, rfl, c _ (.d (.int _)) F H ok.refl (.int _) q⟩
  · cases h with | cons h1 h2 => cases h2; cases h1; exact .inr ⟨_, rfl, c _ (.d (.int _)) F H ok.refl (.int _) q⟩
  · exact q.elim
def oAbs : OpL := fun l P => match l with
  | [.int i] => P (.d (.int (if i < 0 then -i else i)))
  | _ => False
def rAbsA : List V → Hp → VK → Prop := fun xs H Q => ∃ i, xs = [.int i] ∧ Q (.int (if i < 0 then -i else i)) H
theorem dc_abs : DC X (.builtin "abs") rAbsA oAbs := by
  refine ⟨call_abs, ?_⟩
  intro R F H vs l P Q ok h q c
  unfold oAbs at q
  split at q
  · cases h with | cons h1 h2 => cases h2; cases h1; exact ⟨_, rfl, c _ (.d (.int _)) F H ok.refl (.int _) q⟩
  · exact q.elim
/-- all(xs), any(xs), xs a list of boolsD; sum(xs), of intsD -/
def boolsD : List D → Option (List Bool)
  | [] => some []
  | .bool b :: l => (boolsD l).map (b :: ·)
  | _ :: _ => none
def intsD : List D → Option (List Int)
  | [] => some []
  | .int b :: l => (intsD l).map (b :: ·)
  | _ :: _ => none
theorem bools_rep {K : Fr} {F : Hp} : ∀ {l : List D} {vs : List V} {bs : List Bool}, DpAll K F vs l → boolsD l = some bs → vs = bs.map V.bl
  | [], _, _, h, e => by cases h; cases e; rfl
  | x :: l, _, bs, h, e => by
    cases h with
    | cons h1 h2 =>
      cases x <;> first | (cases e; done) | skip
      obtain ⟨bs', e', rfl⟩ := Option.map_eq_some_iff.mp (show (boolsD l).map _ = some bs from e)
      cases h1
      rw [bools_rep h2 e']; rfl
theorem ints_rep {K : Fr} {F : Hp} : ∀ {l : List D} {vs : List V} {bs : List Int}, DpAll K F vs l → intsD l = some bs → vs = bs.map V.int
  | [], _, _, h, e => by cases h; cases e; rfl
  | x :: l, _, bs, h, e => by
    cases h with
    | cons h1 h2 =>
      cases x <;> first | (cases e; done) | skip
      obtain ⟨bs', e', rfl⟩ := Option.map_eq_some_iff.mp (show (intsD l).map _ = some bs from e)
      cases h1
      rw [ints_rep h2 e']; rfl
@[simp] theorem bools_map (bs : List Bool) : boolsD (bs.map PyData.bool) = some bs := by
  induction bs with
  | nil => rfl
  | cons b bs ih => show (boolsD (bs.map PyData.bool)).map _ = _; rw [ih]; rfl
@[simp] theorem ints_map (bs : List Int) : intsD (bs.map PyData.int) = some bs := by
  induction bs with
  | nil => rfl
  | cons b bs ih => show (intsD (bs.map PyData.int)).map _ = _; rw [ih]; rfl
def onB (l : List D) (k : List Bool → Prop) : Prop := match l with
  | [.list m] => match boolsD m with
    | some bs => k bs
    | none => False
  | _ => False
def onI (l : List D) (k : List Int → Prop) : Prop := match l with
  | [.list m] => match intsD m with
    | some bs => k bs
    | none => False
  | _ => False
def oAll : OpL := fun l P => onB l fun bs => P (.d (.bool (bs.all id)))
def oAny : OpL := fun l P => onB l fun bs => P (.d (.bool (bs.any id)))
def oSum : OpL := fun l P => onI l fun bs => P (.d (.int bs.sum))
theorem onB_rep {K : Fr} {F H : Hp} {R : Rg} {vs : List V} {l : List D} {k : List Bool → Prop} (ok : Ok K R F H) (h : DpAll K F vs l) (q : onB l k) : ∃ a bs, vs = [.ref a] ∧ SqL K H a (bs.map V.bl) ∧ k bs := by
  unfold onB at q
  split at q
  · split at q
    · next bs e =>
      cases h with
      | cons h1 h2 =>
        cases h2
        cases h1 with
        | @lst a xs _ hs ha =>
          rw [bools_rep ha e] at hs
          exact ⟨a, bs, rfl, ok.sub.l hs, q⟩
    · exact q.elim
  · exact q.elim
theorem onI_rep {K : Fr} {F H : Hp} {R : Rg} {vs : List V} {l : List D} {k : List Int → Prop} (ok : Ok K R F H) (h : DpAll K F vs l) (q : onI l k) : ∃ a bs, vs = [.ref a] ∧ SqL K H a (bs.map V.int) ∧ k bs := by
  unfold onI at q
  split at q
  · split at q
    · next bs e =>
      cases h with
      | cons h1 h2 =>
        cases h2
        cases h1 with
        | @lst a xs _ hs ha =>
          rw [ints_rep ha e] at hs
          exact ⟨a, bs, rfl, ok.sub.l hs, q⟩
    · exact q.elim
  · exact q.elim
theorem dc_all (hc : X.calm = true) : DC X (.builtin "all") (rAll X.K) oAll := by
  refine ⟨cr_all hc, fun R F H vs l P Q ok h q c => ?_⟩
  obtain ⟨a, bs, e, hs, q⟩ := onB_rep ok h q
  exact ⟨a, bs, e, hs, c _ (.d (.bool _)) F H ok.refl (.bl _) q⟩
theorem dc_any (hc : X.calm = true) : DC X (.builtin "any") (rAny X.K) oAny := by
  refine ⟨cr_any hc, fun R F H vs l P Q ok h q c => ?_⟩
  obtain ⟨a, bs, e, hs, q⟩ := onB_rep ok h q
  exact ⟨a, bs, e, hs, c _ (.d (.bool _)) F H ok.refl (.bl _) q⟩
theorem dc_sum (hc : X.calm = true) : DC X (.builtin "sum") (rSum X.K) oSum := by
  refine ⟨cr_sum hc, fun R F H vs l P Q ok h q c => ?_⟩
  obtain ⟨a, bs, e, hs, q⟩ := onI_rep ok h q
  exact ⟨a, bs, e, hs, c _ (.d (.int _)) F H ok.refl (.int _) q⟩
end
end Pl

namespace Pl
open PySem L2
/-! ### statements: what is owned beside what is frozen -/
def RepO (K : Fr) (R : Rg) (H0 F H : Hp) (a : Addr) (v : V) : U → Prop
  | .own l => v = .ref a ∧ H0 a = none ∧ F a = none ∧ ∃ xs, H a = some (.lst xs) ∧ DpAll K F xs l
  | .d x => Dp K F v x
  | .hold V => ∃ a, v = .ref a ∧ R.a = some a ∧ R.HV = V
  | .exc a dd fs => RepE K F v a dd fs
structure RepS (K : Fr) (R : Rg) (F0 H0 F H : Hp) (σ : St) (s : Sl) : Prop where
  g : Gr K R F0 H0 F H
  live : ∀ b, R.a = some b → H0 b ≠ none
  len : σ.length = s.length
  sl : ∃ A : Nat → Addr, (∀ (i : Nat) (r : U), s[i]? = some (some r) → ∃ v, σ[i]? = some (some v) ∧ RepO K R H0 F H (A i) v r) ∧
    ∀ (i j : Nat) (l m : List D), s[i]? = some (some (.own l)) → s[j]? = some (some (.own m)) → A i = A j → i = j
structure KS where
  nx : Sl → Prop
  rt : U → Sl → Prop
  bk : Sl → Prop
  ct : Sl → Prop
  ex : Ex → Sl → Prop
abbrev US := KS → Sl → Prop
structure Cont (K : Fr) (W : WX) (R : Rg) (F0 H0 : Hp) (k : KS) (D : Ends) : Prop where
  nx : ∀ F H σ s, RepS K R F0 H0 F H σ s → k.nx s → D.nx σ H
  rt : ∀ F H σ s v r, RepS K R F0 H0 F H σ s → RepR K R H0 F H v r → k.rt r s → D.rt v H
  bk : ∀ F H σ s, RepS K R F0 H0 F H σ s → k.bk s → D.bk σ H
  ct : ∀ F H σ s, RepS K R F0 H0 F H σ s → k.ct s → D.ct σ H
  ex : ∀ F H σ s cls d x, RepS K R F0 H0 F H σ s → RepX K F cls d x → k.ex x s → W cls d σ H
def SndS (K : Fr) (W : WX) (t : TS) (u : US) : Prop := ∀ (R : Rg) (F0 H0 F H : Hp) (σ : St) (s : Sl) (k : KS) (D : Ends), RepS K R F0 H0 F H σ s → Cont K W R F0 H0 k D → u k s → t D σ H
structure DS (X : Cx) (W : WX) (st : Stmt) (t : TS) (u : US) : Prop where
  ps : PS X st t
  snd : SndS X.K W t u
structure DSs (X : Cx) (W : WX) (st : List Stmt) (t : TS) (u : US) : Prop where
  ps : PSs X st t
  snd : SndS X.K W t u

/-- the slots as an expression sees them: owned lists hidden, or read as data -/
def vw1 (m : Bool) : Option U → Option U
  | some (.own l) => match m with
    | true => some (.d (.list l))
    | false => none
  | some (.d x) => some (.d x)
  | some (.hold V) => some (.hold V)
  | some (.exc a dd fs) => some (.exc a dd fs)
  | none => none
def vw (m : Bool) (s : Sl) : Sl := s.map (vw1 m)
def okU : Bool → U → Prop
  | false, _ => True
  | true, r => nolU r = true
def okX : Bool → Ex → Prop
  | false, _ => True
  | true, x => ∀ p ∈ x.fs, nol p.2 = true

section
variable {K : Fr} {R : Rg} {F0 H0 F H F' H' : Hp} {σ : St} {s : Sl} {W : WX} {k : KS} {E : Ends}
theorem vw_get (m : Bool) (s : Sl) (i : Nat) : (vw m s)[i]? = (s[i]?).map (vw1 m) := by unfold vw; rw [List.getElem?_map]
theorem RepS.hid (h : RepS K R F0 H0 F H σ s) : RepD K R F σ (vw false s) := by
  obtain ⟨A, h1, _⟩ := h.sl
  refine ⟨by unfold vw; rw [List.length_map]; exact h.len, fun i r e => ?_⟩
  rw [vw_get] at e
  obtain ⟨o, e1, e2⟩ := Option.map_eq_some_iff.mp e
  cases o with
  | none => cases e2
  | some r' =>
    obtain ⟨v, h2, h3⟩ := h1 i r' e1
    cases r' with
    | own l => cases e2
    | d x => cases e2; exact ⟨v, h2, h3⟩
    | hold V => cases e2; exact ⟨v, h2, h3⟩
    | exc a dd fs => cases e2; exact ⟨v, h2, h3⟩
theorem RepO.grow {a : Addr} {v : V} : ∀ {r : U}, RepO K R H0 F H a v r → (∀ b, R.a = some b → H0 b ≠ none) → Gr K R F H F' H' → RepO K R H0 F' H' a v r
  | .d _, h, _, g => Dp.subH h g.ex
  | .hold _, h, _, _ => h
  | .exc _ _ _, h, _, g => RepE.sub h g.ex
  | .own l, h, lv, g => by
    obtain ⟨h1, h2, h3, xs, h4, h5⟩ := h
    have hd : ¬ R.a = some a := fun z => lv a z h2
    refine ⟨h1, h2, ?_, xs, g.keep a _ hd h4, h5.subH g.ex⟩
    cases e : F' a with
    | none => rfl
    | some o => rcases g.new a o e with z | z
                · rw [h3] at z; cases z
                · rw [h4] at z; cases z
theorem RepS.grow (h : RepS K R F0 H0 F H σ s) (g : Gr K R F H F' H') : RepS K R F0 H0 F' H' σ s := by
  obtain ⟨A, h1, h2⟩ := h.sl
  exact ⟨h.g.trans g, h.live, h.len, A, fun i r e => (h1 i r e).imp fun v h => ⟨h.1, h.2.grow (fun b hb => by exact RepS.live ‹_› b hb) g⟩, h2⟩
/-- an owned list's address -/
def OwnA (A : Nat → Addr) (s : Sl) (b : Addr) : Prop := ∃ (i : Nat) (l : List D), s[i]? = some (some (.own l)) ∧ A i = b
open Classical in
/-- owned lists as if they were frozen -/
noncomputable def frzA (A : Nat → Addr) (s : Sl) (F H : Hp) : Hp := fun b => if OwnA A s b then H b else F b
open Classical in
noncomputable def thaw (A : Nat → Addr) (s : Sl) (F : Hp) : Hp := fun b => if OwnA A s b then none else F b
theorem RepS.vis (h : RepS K R F0 H0 F H σ s) : ∃ (B : Addr → Prop) (F1 : Hp), RepD K R F1 σ (vw true s) ∧ Ok K { R with bad := B } F1 H ∧ ∀ F2 H2, Gr K { R with bad := B } F1 H F2 H2 →
    ∃ F3, RepS K R F0 H0 F3 H2 σ s ∧ Gr K R F H F3 H2 ∧ (∀ b, (∀ l, F2 b ≠ some (.lst l)) → ∀ o, F2 b = some o → F3 b = some o) ∧ (∀ b, F2 b = none → F3 b = none) := by
  obtain ⟨A, h1, h2⟩ := h.sl
  have own : ∀ b, OwnA A s b → H0 b = none ∧ F b = none ∧ ∃ xs l, H b = some (.lst xs) ∧ DpAll K F xs l := by
    rintro b ⟨i, l, e, rfl⟩
    obtain ⟨v, _, z1, z2, z3, xs, z4, z5⟩ := h1 i _ e
    exact ⟨z2, z3, xs, l, z4, z5⟩
  have sF : Sub F (frzA A s F H) := fun b o e => by
    unfold frzA
    split
    · next z => obtain ⟨_, z2, _⟩ := own b z; rw [z2] at e; cases e
    · exact e
  have hok : Ok K { R with bad := fun b => R.bad b ∨ OwnA A s b } (frzA A s F H) H := by
    refine ⟨fun b o e => ?_, fun b hb => ?_, fun b hb => ?_, fun b hb => ?_⟩
    · unfold frzA at e
      split at e
      · exact e
      · exact h.g.ok.sub b o e
    · unfold frzA
      split
      · next z => exact absurd (own b z).1 (h.live b hb)
      · exact h.g.ok.dis b hb
    · obtain ⟨xs, l, G, g1, g2, g3, g4⟩ := h.g.ok.inv b hb
      refine ⟨xs, l, G, g1, g2.trans sF, fun c hc => ?_, g4⟩
      rcases hc with hc | hc
      · exact g3 c hc
      · cases e : G c with
        | none => rfl
        | some o => have := g2 c o e; rw [(own c hc).2.1] at this; cases this
    · rcases hb with hb | hb
      · exact h.g.ok.alive b hb
      · obtain ⟨_, _, xs, l, e, _⟩ := own b hb
        rw [e]; simp
  refine ⟨fun b => R.bad b ∨ OwnA A s b, frzA A s F H, ⟨by unfold vw; rw [List.length_map]; exact h.len, fun i r e => ?_⟩, hok, fun F2 H2 g => ?_⟩
  · rw [vw_get] at e
    obtain ⟨o, e1, e2⟩ := Option.map_eq_some_iff.mp e
    cases o with
    | none => cases e2
    | some r' =>
      obtain ⟨v, h4, h3⟩ := h1 i r' e1
      cases r' with
      | own l =>
        cases e2
        obtain ⟨rfl, z2, z3, xs, z4, z5⟩ := h3
        refine ⟨_, h4, .lst (.inl (.inl ?_)) (z5.subH sF)⟩
        unfold frzA
        rw [if_pos ⟨i, l, e1, rfl⟩]
        exact z4
      | d x => cases e2; exact ⟨v, h4, Dp.subH h3 sF⟩
      | hold V => cases e2; exact ⟨v, h4, h3⟩
      | exc a dd fs => cases e2; exact ⟨v, h4, RepE.sub h3 sF⟩
  · -- the owned ones are given back
    have keepO : ∀ b, OwnA A s b → H2 b = H b ∧ F2 b = H b := fun b z => by
      obtain ⟨z1, z2, xs, l, z4, z5⟩ := own b z
      have e1 : frzA A s F H b = some (.lst xs) := by unfold frzA; rw [if_pos z]; exact z4
      have e2 := g.ex b _ e1
      exact ⟨(g.ok.sub b _ e2).trans z4.symm, e2.trans z4.symm⟩
    have sT : Sub F (thaw A s F2) := fun b o e => by
      have nz : ¬ OwnA A s b := fun z => by rw [(own b z).2.1] at e; cases e
      unfold thaw
      rw [if_neg nz]
      exact g.ex b o (by unfold frzA; rw [if_neg nz]; exact e)
    have nl : ∀ b, (∀ l, F2 b ≠ some (.lst l)) → ∀ o, F2 b = some o → thaw A s F2 b = some o := fun b n o e => by
      have nz : ¬ OwnA A s b := fun z => by
        obtain ⟨_, _, xs, l, z4, _⟩ := own b z
        exact n xs ((keepO b z).2.trans z4)
      unfold thaw
      rw [if_neg nz]; exact e
    have thN : ∀ b, F2 b = none → thaw A s F2 b = none := fun b e => by
      unfold thaw
      by_cases z : OwnA A s b
      · rw [if_pos z]
      · rw [if_neg z]; exact e
    have gT : Gr K R F H (thaw A s F2) H2 := by
      refine ⟨sT, g.keep, fun b o e => ?_, ⟨fun b o e => ?_, fun b hb => thN b (g.ok.dis b hb), fun b hb => ?_, fun b hb => g.ok.alive b (.inl hb)⟩⟩
      · unfold thaw at e
        split at e
        · cases e
        · next nz =>
          rcases g.new b o e with z | z
          · unfold frzA at z; rw [if_neg nz] at z; exact .inl z
          · exact .inr z
      · unfold thaw at e
        split at e
        · cases e
        · exact g.ok.sub b o e
      · obtain ⟨xs, l, G, g1, g2, g3, g4⟩ := g.ok.inv b hb
        refine ⟨xs, l, G, g1, fun c o e => ?_, fun c hc => g3 c (.inl hc), g4⟩
        have nz : ¬ OwnA A s c := fun z => by rw [g3 c (.inr z)] at e; cases e
        unfold thaw
        rw [if_neg nz]; exact g2 c o e
    refine ⟨thaw A s F2, ⟨h.g.trans gT, h.live, h.len, A, fun i r e => ?_, h2⟩, gT, nl, thN⟩
    obtain ⟨v, h4, h3⟩ := h1 i r e
    exact ⟨v, h4, h3.grow h.live gT⟩

theorem nol_of {F1 F2 H1 : Hp} {v : V} (e : ∀ b, (∀ l, F1 b ≠ some (.lst l)) → ∀ o, F1 b = some o → F2 b = some o) (n : ∀ b, F1 b = none → F2 b = none) : ∀ {r : U}, nolU r = true → RepR K R H F1 H1 v r → RepR K R H F2 H1 v r
  | .d x, h, q => dp_nol e x v h q
  | .hold _, _, q => q
  | .exc _ _ _, h, _ => by cases h
  | .own l, h, q => by
    obtain ⟨p, xs, h1, h2, h3, h4, h5, h6⟩ := q
    exact ⟨p, xs, h1, h2, dps_nol e l xs h h3, n p h4, h5, h6⟩
theorem lookup_mem {f : Str} {y : D} : ∀ {fs : List (Str × D)}, fs.lookup f = some y → ∃ p ∈ fs, p.2 = y
  | [], h => by cases h
  | (g, z) :: fs, h => by
    by_cases e : f = g
    · subst e
      have : z = y := by simpa [List.lookup] using h
      exact ⟨_, List.mem_cons_self, this⟩
    · have e' : (f == g) = false := by simpa using e
      obtain ⟨p, h1, h2⟩ := lookup_mem (fs := fs) (by simpa [List.lookup, e'] using h)
      exact ⟨p, List.mem_cons_of_mem _ h1, h2⟩
theorem nolX_of {F1 F2 : Hp} {cls : Value} {d : Option Addr} {x : Ex} (e : ∀ b, (∀ l, F1 b ≠ some (.lst l)) → ∀ o, F1 b = some o → F2 b = some o) (h : okX true x) (q : RepX K F1 cls d x) : RepX K F2 cls d x := by
  obtain ⟨h1, dd, fs, h2, h3, h4⟩ := q
  refine ⟨h1, dd, fs, h2, e dd (fun l z => by rw [h3] at z; cases z) _ h3, fun f y hy => ?_⟩
  obtain ⟨v, e1, e2⟩ := h4 f y hy
  obtain ⟨p, hp, rfl⟩ := lookup_mem hy
  exact ⟨v, e1, dp_nol e _ v (h p hp) e2⟩
/-- an expression in a statement: m tells whether it sees the owned lists -/
theorem SndE.run {t : TE} {u : UE} (m : Bool) (hs : SndE K W t u) (h : RepS K R F0 H0 F H σ s) (c : Cont K W R F0 H0 k E) {P : U → Prop} {Q : VK} (q : u (vw m s) (fun r => okU m r ∧ P r) (fun x => okX m x ∧ k.ex x s))
    (go : ∀ v r F' H', Gr K R F H F' H' → RepS K R F0 H0 F' H' σ s → RepR K R H F' H' v r → P r → Q v H') : t σ H Q := by
  cases m with
  | false =>
    exact hs R F H σ _ _ _ Q h.hid h.g.ok q (fun v r F' H' g rep p => go v r F' H' g (h.grow g) rep p.2) fun cls d x F' H' g rep p => c.ex F' H' σ s cls d x (h.grow g) rep p.2
  | true =>
    obtain ⟨B, F1, rd, ok, back⟩ := h.vis
    refine hs { R with bad := B } F1 H σ _ _ _ Q ⟨rd.len, fun i r e => (rd.get i r e).imp fun v z => ⟨z.1, z.2.rg rfl rfl⟩⟩ ok q (fun v r F' H' g rep p => ?_) fun cls d x F' H' g rep p => ?_
    · obtain ⟨F3, rs, g3, n1, n2⟩ := back F' H' g
      exact go v r F3 H' g3 rs (nol_of n1 n2 p.1 (rep.rg rfl rfl)) p.2
    · obtain ⟨F3, rs, g3, n1, n2⟩ := back F' H' g
      exact c.ex F3 H' σ s cls d x rs (nolX_of n1 p.1 rep) p.2
theorem SndT.run {t : TT} {u : UT} (m : Bool) (hs : SndT K W t u) (h : RepS K R F0 H0 F H σ s) (c : Cont K W R F0 H0 k E) {P : Bool → Prop} {Q : Bool → Hp → Prop} (q : u (vw m s) P (fun x => okX m x ∧ k.ex x s))
    (go : ∀ b F' H', RepS K R F0 H0 F' H' σ s → P b → Q b H') : t σ H Q := by
  cases m with
  | false =>
    exact hs R F H σ _ _ _ Q h.hid h.g.ok q (fun b F' H' g p => go b F' H' (h.grow g) p) fun cls d x F' H' g rep p => c.ex F' H' σ s cls d x (h.grow g) rep p.2
  | true =>
    obtain ⟨B, F1, rd, ok, back⟩ := h.vis
    refine hs { R with bad := B } F1 H σ _ _ _ Q ⟨rd.len, fun i r e => (rd.get i r e).imp fun v z => ⟨z.1, z.2.rg rfl rfl⟩⟩ ok q (fun b F' H' g p => ?_) fun cls d x F' H' g rep p => ?_
    · obtain ⟨F3, rs, g3, n1, n2⟩ := back F' H' g
      exact go b F3 H' rs p
    · obtain ⟨F3, rs, g3, n1, n2⟩ := back F' H' g
      exact c.ex F3 H' σ s cls d x rs (nolX_of n1 p.1 rep) p.2

/-! ### slots stored -/
theorem get_set {α : Type} {l : List (Option α)} {i j : Nat} {x : α} {y : Option α} (h : (l.set i y)[j]? = some (some x)) : (j = i ∧ y = some x ∧ i < l.length) ∨ (j ≠ i ∧ l[j]? = some (some x)) := by
  by_cases e : i = j
  · subst e
    by_cases hl : i < l.length
    · rw [List.getElem?_set_self hl] at h
      exact .inl ⟨rfl, Option.some.inj h, hl⟩
    · rw [List.getElem?_eq_none (by rw [List.length_set]; omega)] at h; cases h
  · rw [List.getElem?_set_ne e] at h
    exact .inr ⟨fun z => e z.symm, h⟩
/-- slots and values have one length -/
theorem RepS.put_d {v : V} {x : D} {i : Nat} (h : RepS K R F0 H0 F H σ s) (d : Dp K F v x) : RepS K R F0 H0 F H (σ.set i (some v)) (s.set i (some (.d x))) := by
  obtain ⟨A, h1, h2⟩ := h.sl
  have hl := h.len
  refine ⟨h.g, h.live, by rw [List.length_set, List.length_set]; exact hl, A, fun j r e => ?_, fun j j' l m e e' => ?_⟩
  · rcases get_set e with ⟨rfl, e1, hi⟩ | ⟨n, e1⟩
    · cases e1
      exact ⟨v, List.getElem?_set_self (by omega), d⟩
    · obtain ⟨w, q1, q2⟩ := h1 j r e1
      exact ⟨w, by rw [List.getElem?_set_ne (Ne.symm n)]; exact q1, q2⟩
  · rcases get_set e with ⟨_, e1, _⟩ | ⟨_, e1⟩
    · cases e1
    · rcases get_set e' with ⟨_, e2, _⟩ | ⟨_, e2⟩
      · cases e2
      · exact h2 j j' l m e1 e2

/-- the addresses with one changed -/
def setA (A : Nat → Addr) (i : Nat) (p : Addr) : Nat → Addr := fun j => if j = i then p else A j
theorem setA_same {A : Nat → Addr} {i : Nat} {p : Addr} : setA A i p i = p := if_pos rfl
theorem setA_ne {A : Nat → Addr} {i j : Nat} {p : Addr} (h : j ≠ i) : setA A i p j = A j := if_neg h
/-- a new owned list goes to a slot; H: the heap ahead of its making -/
theorem RepS.put_own {p : Addr} {xs : List V} {l : List D} {i : Nat} {H1 : Hp} (h : RepS K R F0 H0 F H σ s) (g : Gr K R F1 H1 F H) (old : RepS K R F0 H0 F1 H1 σ s) (hp : H p = some (.lst xs)) (d : DpAll K F xs l) (hF : F p = none) (hn : H1 p = none) :
    RepS K R F0 H0 F H (σ.set i (some (.ref p))) (s.set i (some (.own l))) := by
  obtain ⟨A, h1, h2⟩ := old.sl
  have hd : ¬ R.a = some p := fun z => by
    obtain ⟨ys, _, _, e, _⟩ := old.g.ok.inv p z
    rw [hn] at e; cases e
  have h0 : H0 p = none := by
    cases e : H0 p with
    | none => rfl
    | some o => rw [old.g.keep p o hd e] at hn; cases hn
  have hl := h.len
  refine ⟨h.g, h.live, by rw [List.length_set, List.length_set]; exact hl, setA A i p, fun j r e => ?_, fun j j' l m e e' q => ?_⟩
  · rcases get_set e with ⟨rfl, e1, hi⟩ | ⟨n, e1⟩
    · cases e1
      exact ⟨_, List.getElem?_set_self (by omega), by rw [setA_same], by rw [setA_same]; exact h0, by rw [setA_same]; exact hF, xs, by rw [setA_same]; exact hp, d⟩
    · obtain ⟨w, q1, q2⟩ := h1 j r e1
      exact ⟨w, by rw [List.getElem?_set_ne (Ne.symm n)]; exact q1, by rw [setA_ne n]; exact q2.grow h.live g⟩
  · have apart : ∀ (j : Nat) (l : List D), s[j]? = some (some (.own l)) → A j ≠ p := fun j l e z => by
      obtain ⟨w, _, _, _, _, ys, q, _⟩ := h1 j _ e
      rw [z, hn] at q; cases q
    rcases get_set e with ⟨rfl, e1, _⟩ | ⟨n, e1⟩
    · rcases get_set e' with ⟨rfl, e2, _⟩ | ⟨n', e2⟩
      · rfl
      · rw [setA_same, setA_ne n'] at q; exact absurd q.symm (apart j' _ e2)
    · rcases get_set e' with ⟨rfl, e2, _⟩ | ⟨n', e2⟩
      · rw [setA_same, setA_ne n] at q; exact absurd q (apart j _ e1)
      · rw [setA_ne n, setA_ne n'] at q; exact h2 j j' _ _ e1 e2 q
theorem RepS.put_none {i : Nat} {v : Option V} (h : RepS K R F0 H0 F H σ s) : RepS K R F0 H0 F H (σ.set i v) (s.set i none) := by
  obtain ⟨A, h1, h2⟩ := h.sl
  have hl := h.len
  refine ⟨h.g, h.live, by rw [List.length_set, List.length_set]; exact hl, A, fun j r e => ?_, fun j j' l m e e' => ?_⟩
  · rcases get_set e with ⟨rfl, e1, hi⟩ | ⟨n, e1⟩
    · cases e1
    · obtain ⟨w, q1, q2⟩ := h1 j r e1
      exact ⟨w, by rw [List.getElem?_set_ne (Ne.symm n)]; exact q1, q2⟩
  · rcases get_set e with ⟨_, e1, _⟩ | ⟨_, e1⟩
    · cases e1
    · rcases get_set e' with ⟨_, e2, _⟩ | ⟨_, e2⟩
      · cases e2
      · exact h2 j j' l m e1 e2
/-- an owned list's own place -/
theorem RepS.own_at {i : Nat} {l : List D} (h : RepS K R F0 H0 F H σ s) (e : s[i]? = some (some (.own l))) : ∃ a xs, σ[i]? = some (some (.ref a)) ∧ H a = some (.lst xs) ∧ DpAll K F xs l ∧ F a = none ∧ H0 a = none ∧ ¬ R.a = some a ∧
    ∀ ys m, DpAll K F ys m → RepS K R F0 H0 F (upd H a (.lst ys)) σ (s.set i (some (.own m))) := by
  obtain ⟨A, h1, h2⟩ := h.sl
  obtain ⟨v, q1, rfl, q2, q3, xs, q4, q5⟩ := h1 i _ e
  have hd : ¬ R.a = some (A i) := fun z => h.live _ z q2
  refine ⟨A i, xs, q1, q4, q5, q3, q2, hd, fun ys m d => ?_⟩
  have hi : i < s.length := (List.getElem?_eq_some_iff.mp e).1
  have hF : ∀ b o, F b = some o → b ≠ A i := fun b o z w => by rw [w, q3] at z; cases z
  refine ⟨⟨h.g.ex, fun b o n z => ?_, h.g.new, ⟨fun b o z => ?_, h.g.ok.dis, fun b hb => ?_, fun b hb => ?_⟩⟩, h.live, by rw [List.length_set]; exact h.len, A, fun j r e' => ?_, fun j j' l' m' e1 e2 => ?_⟩
  · have nb : b ≠ A i := fun w => by rw [w, q2] at z; cases z
    rw [upd_ne nb]; exact h.g.keep b o n z
  · rw [upd_ne (hF b o z)]; exact h.g.ok.sub b o z
  · have nb : b ≠ A i := fun w => hd (w ▸ hb)
    rw [upd_ne nb]; exact h.g.ok.inv b hb
  · by_cases n : b = A i
    · rw [n, upd_same]; simp
    · rw [upd_ne n]; exact h.g.ok.alive b hb
  · rcases get_set e' with ⟨rfl, e3, _⟩ | ⟨n, e3⟩
    · cases e3
      exact ⟨_, q1, rfl, q2, q3, ys, upd_same, d⟩
    · obtain ⟨w, z1, z2⟩ := h1 j r e3
      refine ⟨w, z1, ?_⟩
      cases r with
      | d x => exact z2
      | hold V => exact z2
      | exc a dd fs => exact z2
      | own l2 =>
        obtain ⟨y1, y2, y3, zs, y4, y5⟩ := z2
        have nb : A j ≠ A i := fun w => n (h2 j i _ _ e3 e w)
        exact ⟨y1, y2, y3, zs, by rw [upd_ne nb]; exact y4, y5⟩
  · have f1 : ∃ l, s[j]? = some (some (.own l)) := by
      rcases get_set e1 with ⟨rfl, _, _⟩ | ⟨_, z⟩
      · exact ⟨l, e⟩
      · exact ⟨_, z⟩
    have f2 : ∃ l, s[j']? = some (some (.own l)) := by
      rcases get_set e2 with ⟨rfl, _, _⟩ | ⟨_, z⟩
      · exact ⟨l, e⟩
      · exact ⟨_, z⟩
    obtain ⟨_, f1⟩ := f1
    obtain ⟨_, f2⟩ := f2
    exact h2 j j' _ _ f1 f2
/-- an owned list is frozen where it stands -/
theorem RepS.frz {i : Nat} {l : List D} (h : RepS K R F0 H0 F H σ s) (e : s[i]? = some (some (.own l))) : ∃ F', RepS K R F0 H0 F' H σ (s.set i (some (.d (.list l)))) ∧ Sub F F' := by
  obtain ⟨A, h1, h2⟩ := h.sl
  obtain ⟨v, q1, rfl, q2, q3, xs, q4, q5⟩ := h1 i _ e
  have hd : ¬ R.a = some (A i) := fun z => h.live _ z q2
  have hs : Sub F (upd F (A i) (.lst xs)) := Sub.new q3
  have ok' := h.g.ok.freeze q4 q3 hd
  have new' : ∀ b o, (upd F (A i) (.lst xs)) b = some o → F0 b = some o ∨ H0 b = none := fun b o z => by
    by_cases hb : b = A i
    · rw [hb]; exact .inr q2
    · rw [upd_ne hb] at z; exact h.g.new b o z
  refine ⟨upd F (A i) (.lst xs), ⟨⟨h.g.ex.trans hs, h.g.keep, new', ok'⟩, h.live, by rw [List.length_set]; exact h.len, A, fun j r e' => ?_, fun j j' l' m' e1 e2 => ?_⟩, hs⟩
  · rcases get_set e' with ⟨rfl, e3, _⟩ | ⟨n, e3⟩
    · cases e3
      exact ⟨_, q1, .lst (.inl (.inl upd_same)) (q5.subH hs)⟩
    · obtain ⟨w, z1, z2⟩ := h1 j r e3
      refine ⟨w, z1, ?_⟩
      cases r with
      | d x => exact Dp.subH z2 hs
      | hold V => exact z2
      | exc a dd fs => exact RepE.sub z2 hs
      | own l2 =>
        obtain ⟨y1, y2, y3, zs, y4, y5⟩ := z2
        have nb : A j ≠ A i := fun w => n (h2 j i _ _ e3 e w)
        exact ⟨y1, y2, by rw [upd_ne nb]; exact y3, zs, y4, y5.subH hs⟩
  · rcases get_set e1 with ⟨_, z, _⟩ | ⟨_, z⟩
    · cases z
    · rcases get_set e2 with ⟨_, w, _⟩ | ⟨_, w⟩
      · cases w
      · exact h2 j j' _ _ z w
end
end Pl

namespace Pl
open PySem L2
section
variable {X : Cx} {W : WX} {e a b c : Expr} {st : Stmt} {rest body orelse : List Stmt} {ta tb tc te : TE} {ua ub uc ue : UE} {t t' : TS} {u u' : US} {tt : TT} {ut : UT} {pos p : Pos}
/-! ### blocks and small statements -/
def uNext : US := fun k s => k.nx s
def uSeq (u u' : US) : US := fun k s => u { k with nx := u' k } s
theorem Cont.next {K : Fr} {R : Rg} {F0 H0 : Hp} {k : KS} {D : Ends} {n : Sl → Prop} {N : St → Hp → Prop} (c : Cont K W R F0 H0 k D) (h : ∀ F H σ s, RepS K R F0 H0 F H σ s → n s → N σ H) : Cont K W R F0 H0 { k with nx := n } { D with nx := N } := ⟨h, c.rt, c.bk, c.ct, c.ex⟩
theorem dss_nil : DSs X W [] tNext uNext := ⟨pss_nil, fun R F0 H0 F H σ s k D rs c q => c.nx F H σ s rs q⟩
theorem dss_cons (h : DS X W st t u) (h' : DSs X W rest t' u') : DSs X W (st :: rest) (tSeq t t') (uSeq u u') :=
  ⟨pss_cons h.ps h'.ps, fun R F0 H0 F H σ s k D rs c q => h.snd R F0 H0 F H σ s _ _ rs (c.next fun F' H' σ' s' rs' q' => h'.snd R F0 H0 F' H' σ' s' k D rs' c q') q⟩
theorem dss_one (h : DS X W st t u) : DSs X W [st] t u := ⟨pss_one h.ps, h.snd⟩
theorem ds_pass : DS X W (.Pass pos) tNext uNext := ⟨ps_pass, fun R F0 H0 F H σ s k D rs c q => c.nx F H σ s rs q⟩
theorem ds_doc {x : Str} {j pos'} : DS X W (.Expr (.Constant (.str x) j pos) pos') tNext uNext := ⟨ps_doc, fun R F0 H0 F H σ s k D rs c q => c.nx F H σ s rs q⟩
def uBreak : US := fun k s => k.bk s
def uCont : US := fun k s => k.ct s
theorem ds_break : DS X W (.Break pos) tBreak uBreak := ⟨ps_break, fun R F0 H0 F H σ s k D rs c q => c.bk F H σ s rs q⟩
theorem ds_continue : DS X W (.Continue pos) tCont uCont := ⟨ps_continue, fun R F0 H0 F H σ s k D rs c q => c.ct F H σ s rs q⟩
/-- an expression read in a statement -/
def ev (m : Bool) (ue : UE) (k : KS) (s : Sl) (P : U → Prop) : Prop := ue (vw m s) (fun r => okU m r ∧ P r) (fun x => okX m x ∧ k.ex x s)
def evT (m : Bool) (ut : UT) (k : KS) (s : Sl) (P : Bool → Prop) : Prop := ut (vw m s) P (fun x => okX m x ∧ k.ex x s)
def uDrop (m : Bool) (ue : UE) : US := fun k s => ev m ue k s fun _ => k.nx s
theorem ds_expr (m : Bool) (h : DE X W e te ue) (hs : swapsWith e none pos.line X.env = pure false := by rfl) : DS X W (.Expr e pos) (tDrop te) (uDrop m ue) :=
  ⟨ps_expr h.pe hs, fun R F0 H0 F H σ s k D rs c q => h.snd.run m rs c (P := fun _ => k.nx s) q fun v r F' H' g rs' rep p => c.nx F' H' σ s rs' p⟩
def uRet (m : Bool) (ue : UE) : US := fun k s => ev m ue k s fun r => k.rt r s
theorem ds_ret (m : Bool) (h : DE X W e te ue) : DS X W (.Return (some e) pos) (tRet te) (uRet m ue) :=
  ⟨ps_ret h.pe, fun R F0 H0 F H σ s k D rs c q => h.snd.run m rs c (P := fun r => k.rt r s) q fun v r F' H' g rs' rep p => c.rt F' H' σ s v r rs' (rep.back rs.g) p⟩
/-- return x, x an owned list: it is handed out as owned -/
def uRetO (i : Nat) : US := fun k s => match s[i]? with
  | some (some (.own l)) => k.rt (.own l) s
  | _ => False
theorem ds_retO {x : Str} (i : Nat) (hN : X.N[i]? = some x := by rfl) (hv : Vis X.env.scope x := by first | exact .inl rfl | exact .inr (.inl rfl) | exact .inr (.inr rfl))
    (hd : (x == ("__debug__" : Str)) = false := by decide) (hcd : (x == ("__classdict__" : Str)) = false := by decide) : DS X W (.Return (some (.Name x p)) pos) (tRet (tVar i)) (uRetO i) := by
  refine ⟨ps_ret (pe_var hN hv hd hcd), fun R F0 H0 F H σ s k D rs c q => ?_⟩
  unfold uRetO at q
  split at q
  · next l e =>
    obtain ⟨a, xs, h1, h2, h3, h4, h5, h6, _⟩ := rs.own_at e
    exact ⟨_, h1, c.rt F H σ s _ (.own l) rs ⟨a, xs, rfl, h2, h3, h4, h5, h6⟩ q⟩
  · exact q.elim
def uRetN : US := fun k s => k.rt (.d .none) s
theorem ds_retN : DS X W (.Return none pos) tRetN uRetN := ⟨ps_retN, fun R F0 H0 F H σ s k D rs c q => c.rt F H σ s .non (.d .none) rs .non q⟩
def uIfS (m : Bool) (ut : UT) (u u' : US) : US := fun k s => evT m ut k s fun b => if b = true then u k s else u' k s
theorem ds_if (m : Bool) (hc : DT X W c tt ut) (ha : DSs X W body t u) (hb : DSs X W orelse t' u') : DS X W (.If c body orelse pos) (tIfS tt t t') (uIfS m ut u u') :=
  ⟨ps_if hc.pt ha.ps hb.ps, fun R F0 H0 F H σ s k D rs c q => hc.snd.run m rs c (P := fun b => if b = true then u k s else u' k s) q fun b F' H' rs' p => by
    cases b with
    | true => exact ha.snd R F0 H0 F' H' σ s k D rs' c p
    | false => exact hb.snd R F0 H0 F' H' σ s k D rs' c p⟩
/-- x = e, kept as data (a new list is frozen) -/
def frzU : U → Option D
  | .d x => some x
  | .own l => some (.list l)
  | .hold _ => none
  | .exc _ _ _ => none
def uSet (m : Bool) (i : Nat) (ue : UE) : US := fun k s => ev m ue k s fun r => onD r fun x => k.nx (s.set i (some (.d x)))
theorem snd_set {K : Fr} (m : Bool) {i : Nat} (h : SndE K W te ue) : SndS K W (tAsg te (gName i)) (uSet m i ue) := fun R F0 H0 F H σ s k D rs c q =>
  h.run m rs c (P := fun r => onD r fun x => k.nx (s.set i (some (.d x)))) q fun v r F' H' g rs' rep p => by
    cases r with
    | hold V => exact p.elim
    | exc a dd fs => exact p.elim
    | d x => exact c.nx F' H' _ _ (rs'.put_d rep) p
    | own l =>
      obtain ⟨pp, xs, rfl, h1, h2, h3, h4, h5⟩ := rep
      by_cases hi : i < s.length
      · have ro := rs'.put_own (i := i) g rs h1 h2 h3 h4
        obtain ⟨F2, rf, _⟩ := ro.frz (i := i) (l := l) (by rw [List.getElem?_set_self hi])
        rw [List.set_set] at rf
        exact c.nx F2 H' _ _ rf p
      · have e1 : s.set i (some (.d (.list l))) = s := List.set_eq_of_length_le (by omega)
        have e2 : σ.set i (some (V.ref pp)) = σ := List.set_eq_of_length_le (by rw [rs.len]; omega)
        have p' : k.nx (s.set i (some (.d (.list l)))) := p
        rw [e1] at p'
        show D.nx (σ.set i (some (V.ref pp))) H'
        rw [e2]
        exact c.nx F' H' _ _ rs' p'
/-- x = e, a new list kept as owned -/
def uSetO (m : Bool) (i : Nat) (ue : UE) : US := fun k s => ev m ue k s fun r => match r with
  | .hold _ => k.nx (s.set i none)
  | .exc _ _ _ => k.nx (s.set i none)
  | r => k.nx (s.set i (some r))
theorem snd_setO {K : Fr} (m : Bool) {i : Nat} (h : SndE K W te ue) : SndS K W (tAsg te (gName i)) (uSetO m i ue) := fun R F0 H0 F H σ s k D rs c q =>
  h.run m rs c (P := fun r => match r with
  | .hold _ => k.nx (s.set i none)
  | .exc _ _ _ => k.nx (s.set i none)
  | r => k.nx (s.set i (some r))) q fun v r F' H' g rs' rep p => by
    cases r with
    | hold V => exact c.nx F' H' _ _ rs'.put_none p
    | exc a dd fs => exact c.nx F' H' _ _ rs'.put_none p
    | d x => exact c.nx F' H' _ _ (rs'.put_d rep) p
    | own l =>
      obtain ⟨pp, xs, rfl, h1, h2, h3, h4, h5⟩ := rep
      exact c.nx F' H' _ _ (rs'.put_own (i := i) g rs h1 h2 h3 h4) p
theorem ds_set {x : Str} {p' : Pos} (m : Bool) (i : Nat) (h : DE X W e te ue) (hN : X.N.Nodup) (hi : X.N[i]? = some x := by rfl) (hx : Loc X.env.scope x := by first | exact .inl rfl | exact .inr rfl) (hs : swapsWith e (some (.Name x p')) pos.line X.env = pure false := by rfl)
    (hf : X.fn x = true ∨ X.env.scope.names.lookup x = some .local := by first | exact .inl rfl | exact .inr rfl) : DS X W (.Assign [.Name x p'] e pos) (tAsg te (gName i)) (uSet m i ue) := ⟨ps_set hN hi hx h.pe hs hf, snd_set m h.snd⟩
theorem ds_setO {x : Str} {p' : Pos} (m : Bool) (i : Nat) (h : DE X W e te ue) (hN : X.N.Nodup) (hi : X.N[i]? = some x := by rfl) (hx : Loc X.env.scope x := by first | exact .inl rfl | exact .inr rfl) (hs : swapsWith e (some (.Name x p')) pos.line X.env = pure false := by rfl)
    (hf : X.fn x = true ∨ X.env.scope.names.lookup x = some .local := by first | exact .inl rfl | exact .inr rfl) : DS X W (.Assign [.Name x p'] e pos) (tAsg te (gName i)) (uSetO m i ue) := ⟨ps_set hN hi hx h.pe hs hf, snd_setO m h.snd⟩
/-- x = y, y an owned list that is not asked again: it goes over -/
def uMove (i j : Nat) : US := fun k s => match s[j]? with
  | some (some (.own l)) => i ≠ j ∧ k.nx ((s.set j none).set i (some (.own l)))
  | _ => False
theorem RepS.move {K : Fr} {R : Rg} {F0 H0 F H : Hp} {σ : St} {s : Sl} {i j : Nat} {l : List D} (h : RepS K R F0 H0 F H σ s) (e : s[j]? = some (some (.own l))) (n : i ≠ j) : ∃ v, σ[j]? = some (some v) ∧ RepS K R F0 H0 F H (σ.set i (some v)) ((s.set j none).set i (some (.own l))) := by
  obtain ⟨A, h1, h2⟩ := h.sl
  obtain ⟨v, q1, q2⟩ := h1 j _ e
  have hl := h.len
  refine ⟨v, q1, h.g, h.live, by simp [hl], setA A i (A j), fun m r e' => ?_, fun m m' l1 l2 e1 e2 z => ?_⟩
  · rcases get_set e' with ⟨rfl, e3, hi⟩ | ⟨nm, e3⟩
    · cases e3
      rw [List.length_set] at hi
      exact ⟨v, List.getElem?_set_self (by omega), by rw [setA_same]; exact q2⟩
    · rcases get_set e3 with ⟨_, z, _⟩ | ⟨nj, e4⟩
      · cases z
      · obtain ⟨w, z1, z2⟩ := h1 m r e4
        exact ⟨w, by rw [List.getElem?_set_ne (Ne.symm nm)]; exact z1, by rw [setA_ne nm]; exact z2⟩
  · have key : ∀ {m : Nat} {l1 : List D}, ((s.set j none).set i (some (.own l1)))[m]? = some (some (.own l1)) → True := fun _ => trivial
    rcases get_set e1 with ⟨rfl, _, _⟩ | ⟨n1, e3⟩
    · rcases get_set e2 with ⟨rfl, _, _⟩ | ⟨n2, e4⟩
      · rfl
      · rcases get_set e4 with ⟨_, y, _⟩ | ⟨nj, e5⟩
        · cases y
        · rw [setA_same, setA_ne n2] at z
          exact absurd (h2 j m' _ _ e e5 z) (fun w => nj w.symm)
    · rcases get_set e3 with ⟨_, y, _⟩ | ⟨nj, e5⟩
      · cases y
      · rcases get_set e2 with ⟨rfl, _, _⟩ | ⟨n2, e4⟩
        · rw [setA_same, setA_ne n1] at z
          exact absurd (h2 m j _ _ e5 e z) nj
        · rcases get_set e4 with ⟨_, y, _⟩ | ⟨nj2, e6⟩
          · cases y
          · rw [setA_ne n1, setA_ne n2] at z
            exact h2 m m' _ _ e5 e6 z
theorem ds_move {x y : Str} {p' p2 : Pos} (i j : Nat) (hN : X.N.Nodup) (hi : X.N[i]? = some x := by rfl) (hj : X.N[j]? = some y := by rfl) (hx : Loc X.env.scope x := by first | exact .inl rfl | exact .inr rfl) (hv : Vis X.env.scope y := by first | exact .inl rfl | exact .inr (.inl rfl) | exact .inr (.inr rfl))
    (hs : swapsWith (.Name y p2) (some (.Name x p')) pos.line X.env = pure false := by rfl) (hf : X.fn x = true ∨ X.env.scope.names.lookup x = some .local := by first | exact .inl rfl | exact .inr rfl)
    (hd : (y == ("__debug__" : Str)) = false := by decide) (hcd : (y == ("__classdict__" : Str)) = false := by decide) : DS X W (.Assign [.Name x p'] (.Name y p2) pos) (tAsg (tVar j) (gName i)) (uMove i j) := by
  refine ⟨ps_set hN hi hx (pe_var hj hv hd hcd) hs hf, fun R F0 H0 F H σ s k D rs c q => ?_⟩
  unfold uMove at q
  split at q
  · next l e =>
    obtain ⟨v, h1, h2⟩ := rs.move e q.1
    exact ⟨v, h1, c.nx F H _ _ h2 q.2⟩
  · exact q.elim
/-- from here on an owned list is data -/
def uFrz (i : Nat) (u : US) : US := fun k s => match s[i]? with
  | some (some (.own l)) => u k (s.set i (some (.d (.list l))))
  | _ => u k s
theorem dss_frz (i : Nat) (h : DSs X W rest t u) : DSs X W rest t (uFrz i u) := by
  refine ⟨h.ps, fun R F0 H0 F H σ s k D rs c q => ?_⟩
  unfold uFrz at q
  split at q
  · next l e =>
    obtain ⟨F2, rf, _⟩ := rs.frz e
    exact h.snd R F0 H0 F2 H σ _ k D rf c q
  · exact h.snd R F0 H0 F H σ s k D rs c q
/-- fewer facts: a slot is forgotten -/
def uForget (i : Nat) (u : US) : US := fun k s => u k (s.set i none)

/-! ### owned lists changed -/
/-- x.append(e), x in slot i -/
def uApp (m : Bool) (i : Nat) (ue : UE) : US := fun k s => match s[i]? with
  | some (some (.own l)) => ev m ue k s fun r => onD r fun x => l.length < sizeLine ∧ k.nx (s.set i (some (.own (l ++ [x]))))
  | _ => False
theorem RepS.dat {K : Fr} {R : Rg} {F0 H0 F H F1 H1 : Hp} {σ : St} {s : Sl} {v : V} {r : U} {q : D → Prop} (old : RepS K R F0 H0 F1 H1 σ s) (g : Gr K R F1 H1 F H) (rep : RepR K R H1 F H v r) (p : onD r q) : ∃ F2 x, Gr K R F1 H1 F2 H ∧ RepS K R F0 H0 F2 H σ s ∧ Dp K F2 v x ∧ q x := by
  obtain ⟨F2, x, g2, d, p2⟩ := rep.frz g p
  exact ⟨F2, x, g2, old.grow g2, d, p2⟩
section
variable {x : Str} {p1 p2 p3 p4 : Pos}
theorem ds_app (m : Bool) (i : Nat) (h : DE X W e te ue) (hN : X.N[i]? = some x := by rfl) (hv : Vis X.env.scope x := by first | exact .inl rfl | exact .inr (.inl rfl) | exact .inr (.inr rfl))
    (hd : (x == ("__debug__" : Str)) = false := by decide) (hcd : (x == ("__classdict__" : Str)) = false := by decide)
    (hs : swapsWith (.Call (.Attribute (.Name x p1) "append" p2) [e] [] p3) none p4.line X.env = pure false := by rfl) (he : starEach (e :: []) X.env = (false, eval e X.env) :: starEach [] X.env := by rfl) (hpl : (backTo p3 (starEach [] X.env)).any (·.1) = false := by rfl)
    (hbase : attributeBase (.Name x p1) "append" X.env (eval (.Name x p1) X.env) = eval (.Name x p1) X.env := by rfl)
    (hfew : ((backTo p3 (starEach (e :: []) X.env)).all (fun x => !x.1) && (backToKw p3 (keywordEach [] X.env)).all (fun x => x.1.isSome)
      && decide ((e :: []).length + ([] : List Keyword).length + (if ([] : List Keyword).isEmpty then 0 else 1) < 30)) = true := by rfl)
    (hline : (p2.endLine == p3.line) = true := by rfl) :
    DS X W (.Expr (.Call (.Attribute (.Name x p1) "append" p2) [e] [] p3) p4) (tDrop (tBM X.K "list" rAppend (tVar i) (tCons te tNil))) (uApp m i ue) := by
  refine ⟨ps_expr (pe_bm PySem.F.plainAttrs_list PySem.F.slot_list_append PySem.F.type_list_append mt_append (pe_var hN hv hd hcd) (pa_cons h.pe pa_nil he) hbase hfew hline he hpl) hs, fun R F0 H0 F H σ s k D rs c q => ?_⟩
  unfold uApp at q
  split at q
  · next l el =>
    obtain ⟨a, xs, h1, h2, h3, h4, h5, h6, h7⟩ := rs.own_at el
    refine ⟨_, h1, .inl ⟨rfl, _, .inl (.inl h2)⟩, ?_⟩
    refine h.snd.run m rs c (P := fun r => onD r fun x => l.length < sizeLine ∧ k.nx (s.set i (some (.own (l ++ [x]))))) q fun v r F' H' g rs' rep p => ?_
    obtain ⟨F2, y, g2, rs2, d2, p2⟩ := rs.dat g rep p
    obtain ⟨a', ys, z1, z2, z3, z4, z5, z6, z7⟩ := rs2.own_at el
    rw [h1] at z1
    cases z1
    refine ⟨a, ys, v, rfl, rfl, z2, by rw [z3.lengthH]; exact p2.1, ?_⟩
    exact c.nx F2 _ _ _ (z7 _ _ (z3.appendH (.cons d2 .nil))) p2.2
  · exact q.elim
/-- x.insert(n, e), n not below 0 -/
def uIns (m : Bool) (i : Nat) (ui ue : UE) : US := fun k s => match s[i]? with
  | some (some (.own l)) => ev m ui k s fun r => onD r fun n => ev m ue k s fun r2 => onD r2 fun x => l.length < sizeLine ∧ match n with
    | .int j => 0 ≤ j ∧ j < 2 ^ 63 ∧ k.nx (s.set i (some (.own (l.take j.toNat ++ x :: l.drop j.toNat))))
    | _ => False
  | _ => False
def rInsA : V → List V → Hp → VK → Prop := fun x vs H Q => ∃ (l : Addr) (xs : List V) (i : Int) (y : V), x = .ref l ∧ vs = [.int i, y] ∧ H l = some (.lst xs) ∧ xs.length < sizeLine ∧ 0 ≤ i ∧ i < 2 ^ 63 ∧ Q .non (upd H l (.lst (xs.take i.toNat ++ [y] ++ xs.drop i.toNat)))
theorem ds_ins {ti : TE} {ui : UE} {n : Expr} (m : Bool) (i : Nat) (hn : DE X W n ti ui) (h : DE X W e te ue) (hN : X.N[i]? = some x := by rfl) (hv : Vis X.env.scope x := by first | exact .inl rfl | exact .inr (.inl rfl) | exact .inr (.inr rfl))
    (hd : (x == ("__debug__" : Str)) = false := by decide) (hcd : (x == ("__classdict__" : Str)) = false := by decide)
    (hs : swapsWith (.Call (.Attribute (.Name x p1) "insert" p2) [n, e] [] p3) none p4.line X.env = pure false := by rfl) (he : starEach (n :: [e]) X.env = (false, eval n X.env) :: starEach [e] X.env := by rfl) (he2 : starEach (e :: []) X.env = (false, eval e X.env) :: starEach [] X.env := by rfl) (hpl : (backTo p3 (starEach [e] X.env)).any (·.1) = false := by rfl)
    (hbase : attributeBase (.Name x p1) "insert" X.env (eval (.Name x p1) X.env) = eval (.Name x p1) X.env := by rfl)
    (hfew : ((backTo p3 (starEach (n :: [e]) X.env)).all (fun x => !x.1) && (backToKw p3 (keywordEach [] X.env)).all (fun x => x.1.isSome)
      && decide ((n :: [e]).length + ([] : List Keyword).length + (if ([] : List Keyword).isEmpty then 0 else 1) < 30)) = true := by rfl)
    (hline : (p2.endLine == p3.line) = true := by rfl) :
    DS X W (.Expr (.Call (.Attribute (.Name x p1) "insert" p2) [n, e] [] p3) p4) (tDrop (tBM X.K "list" rInsA (tVar i) (tCons ti (tCons te tNil)))) (uIns m i ui ue) := by
  refine ⟨ps_expr (pe_bm PySem.F.plainAttrs_list PySem.F.slot_list_insert PySem.F.type_list_insert mt_insert (pe_var hN hv hd hcd) (pa_cons hn.pe (pa_cons h.pe pa_nil he2) he) hbase hfew hline he hpl) hs, fun R F0 H0 F H σ s k D rs c q => ?_⟩
  unfold uIns at q
  split at q
  · next l el =>
    obtain ⟨a, xs, h1, h2, h3, h4, h5, h6, h7⟩ := rs.own_at el
    refine ⟨_, h1, .inl ⟨rfl, _, .inl (.inl h2)⟩, ?_⟩
    refine hn.snd.run m rs c q fun v r F' H' g rs' rep p => ?_
    obtain ⟨F2, y, g2, rs2, d2, p2⟩ := rs.dat g rep p
    refine h.snd.run m rs2 c p2 fun w r F3 H3 g3 rs3 rep3 p3 => ?_
    obtain ⟨F4, z, g4, rs4, d4, p4⟩ := rs2.dat g3 rep3 p3
    obtain ⟨a', ys, z1, z2, z3, z4, z5, z6, z7⟩ := rs4.own_at el
    rw [h1] at z1
    cases z1
    cases d2 with
    | int j =>
      obtain ⟨b1, b2, b3, b4⟩ := p4
      refine ⟨a, ys, j, w, rfl, rfl, z2, by rw [z3.lengthH]; exact b1, b2, b3, ?_⟩
      have z8 := z7 (ys.take j.toNat ++ [w] ++ ys.drop j.toNat) (l.take j.toNat ++ z :: l.drop j.toNat) (by
        have t1 := ((z3.takeH j.toNat).appendH (.cons d4 .nil)).appendH (z3.dropH j.toNat)
        simpa using t1)
      exact c.nx F4 _ _ _ z8 b4
    | _ => exact p4.2.elim
  · exact q.elim
/-- x[n] = e -/
def uPut (m : Bool) (i : Nat) (ui ue : UE) : US := fun k s => match s[i]? with
  | some (some (.own l)) => ev m ue k s fun r => onD r fun x => ev m ui k s fun r2 => onD r2 fun n => match n with
    | .int j => match ixN l.length j with
      | some n => k.nx (s.set i (some (.own (l.set n x))))
      | none => False
    | _ => False
  | _ => False
theorem ds_put {ti : TE} {ui : UE} {n : Expr} (m : Bool) (i : Nat) (hn : DE X W n ti ui) (h : DE X W e te ue) (hN : X.N[i]? = some x := by rfl) (hv : Vis X.env.scope x := by first | exact .inl rfl | exact .inr (.inl rfl) | exact .inr (.inr rfl))
    (hd : (x == ("__debug__" : Str)) = false := by decide) (hcd : (x == ("__classdict__" : Str)) = false := by decide)
    (hs : swapsWithSole [.Subscript (.Name x p1) n p2] e p4.line X.env = pure false := by rfl) (hw : swappedStores [.Subscript (.Name x p1) n p2] e X.env = pure none := by rfl)
    (h1 : (assignEach [.Subscript (.Name x p1) n p2] X.env).map (·.2) = [assign (.Subscript (.Name x p1) n p2) X.env] := by rfl)
    (ha : ∀ v, assign (.Subscript (.Name x p1) n p2) X.env v = (do
      let ov ← holding [v] (eval (.Name x p1) X.env)
      let iv ← holding [v, ov] (eval n X.env)
      standAt p2
      holding [v, ov, iv] (setItem ov iv v)
      release [v, ov, iv] []) := by intro _; rfl) :
    DS X W (.Assign [.Subscript (.Name x p1) n p2] e p4) (tAsg te (gSub (tVar i) ti rSetL)) (uPut m i ui ue) := by
  refine ⟨ps_asg h.pe (pg_sub (pe_var hN hv hd hcd) hn.pe set_list ha) hs hw h1, fun R F0 H0 F H σ s k D rs c q => ?_⟩
  unfold uPut at q
  split at q
  · next l el =>
    refine h.snd.run m rs c (P := fun r => onD r fun x => ev m ui k s fun r2 => onD r2 fun n => match n with
    | .int j => match ixN l.length j with
      | some n => k.nx (s.set i (some (.own (l.set n x))))
      | none => False
    | _ => False) q fun v r F' H' g rs' rep p => ?_
    obtain ⟨F2, y, g2, rs2, d2, p2⟩ := rs.dat g rep p
    obtain ⟨a, xs, h1, h2, h3, h4, h5, h6, h7⟩ := rs2.own_at el
    refine ⟨_, h1, ?_⟩
    refine hn.snd.run m rs2 c p2 fun w r F3 H3 g3 rs3 rep3 p3 => ?_
    obtain ⟨F4, z, g4, rs4, d4, p4⟩ := rs2.dat g3 rep3 p3
    obtain ⟨a', ys, z1, z2, z3, z4, z5, z6, z7⟩ := rs4.own_at el
    rw [h1] at z1
    cases z1
    cases d4 with
    | int j =>
      dsimp only at p4
      split at p4
      · next jn hj => exact ⟨a, ys, j, jn, rfl, rfl, z2, by rw [z3.lengthH]; exact hj, c.nx F4 _ _ _ (z7 _ _ (z3.setH (d2.subH g4.ex))) p4⟩
      · exact p4.elim
    | _ => exact p4.elim
  · exact q.elim
/-- an item of a list, as an operation on it asks it -/
theorem pget_list : PGet X (rIxL X.K) := by
  intro pins s σ H o i ov iv Q I ro ri h
  obtain ⟨p, xs, j, z, rfl, rfl, hq, he, q⟩ := h
  cases ro
  obtain ⟨t, rfl⟩ := ri
  obtain ⟨its, r, pl, hz⟩ := I.list hq
  obtain ⟨n, h1, h2, h3, h4, h5⟩ := atI_get he
  obtain ⟨w, ew, rw'⟩ := r.get h2
  have hl := r.length
  have hn := line63
  have fin : EP X pins σ Q w s := ⟨z, H, I, rw', q⟩
  by_cases h0 : 0 ≤ j
  · have hj : j.toNat = n := by
      rw [seqIndex_of h0 h5] at h1
      exact Option.some.inj h1
    exact wpAny_getItem_list pl.isList h0 (by omega) (by rw [hj]; simpa using ew) fin
  · have hj : (j + (its.toArray.size : Int)).toNat = n := by
      rw [seqIndex_neg (by omega) h4] at h1
      rw [List.size_toArray, ← hl]
      exact Option.some.inj h1
    exact wpAny_getItem_list_neg pl.isList (by omega) (by rw [List.size_toArray] <;> omega) (by omega) (by rw [hj]; simpa using ew) fin
/-- in place, of ints -/
structure DIp (X : Cx) (op : Operator) (f : Int → Int → Int) : Prop where
  ip : PIp X op (ipI f)
theorem dip_add : DIp X .Add (fun i j => i + j) := ⟨ip_add⟩
theorem dip_sub : DIp X .Sub (fun i j => i - j) := ⟨ip_sub⟩
/-- x[n] += e, of ints -/
def uPutA (f : Int → Int → Int) (m : Bool) (i : Nat) (ui ue : UE) : US := fun k s => match s[i]? with
  | some (some (.own l)) => ev m ui k s fun r => onD r fun n => match n with
    | .int j => match ixN l.length j with
      | some n => match l[n]? with
        | some (.int a) => ev m ue k s fun r2 => onD r2 fun y => match y with
          | .int b => k.nx (s.set i (some (.own (l.set n (.int (f a b))))))
          | _ => False
        | _ => False
      | none => False
    | _ => False
  | _ => False
/-- x op= e, of ints -/
def uAug (f : Int → Int → Int) (m : Bool) (i : Nat) (ue : UE) : US := fun k s => match s[i]? with
  | some (some (.d (.int a))) => ev m ue k s fun r => onD r fun y => match y with
    | .int b => k.nx (s.set i (some (.d (.int (f a b)))))
    | _ => False
  | _ => False
theorem ds_aug {op : Operator} {f : Int → Int → Int} (m : Bool) (i : Nat) (ho : DIp X op f) (h : DE X W e te ue) (hN : X.N.Nodup) (hi : X.N[i]? = some x := by rfl) (hx : Loc X.env.scope x := by first | exact .inl rfl | exact .inr rfl)
    (hf : X.fn x = true ∨ X.env.scope.names.lookup x = some .local := by first | exact .inl rfl | exact .inr rfl) : DS X W (.AugAssign (.Name x p1) op e p2) (tAug i te (ipI f)) (uAug f m i ue) := by
  refine ⟨ps_aug hN hi hx h.pe ho.ip hf, fun R F0 H0 F H σ s k D rs c q => ?_⟩
  unfold uAug at q
  split at q
  · next a el =>
    obtain ⟨A, z1, z2⟩ := rs.sl
    obtain ⟨v, h1, h2⟩ := z1 i _ el
    cases (show Dp X.K F v (.int a) from h2)
    refine ⟨_, h1, ?_⟩
    refine h.snd.run m rs c (P := fun r => onD r fun y => match y with
    | .int b => k.nx (s.set i (some (.d (.int (f a b)))))
    | _ => False) q fun v r F' H' g rs' rep p => ?_
    obtain ⟨F2, y, g2, rs2, d2, p2⟩ := rs.dat g rep p
    cases d2 with
    | int b => exact ⟨a, b, rfl, rfl, c.nx F2 _ _ _ (rs2.put_d (.int _)) p2⟩
    | _ => exact p2.elim
  · exact q.elim
theorem ds_putA {op : Operator} {f : Int → Int → Int} {ti : TE} {ui : UE} {n : Expr} (m : Bool) (i : Nat) (ho : DIp X op f) (hn : DE X W n ti ui) (h : DE X W e te ue) (hN : X.N[i]? = some x := by rfl) (hv : Vis X.env.scope x := by first | exact .inl rfl | exact .inr (.inl rfl) | exact .inr (.inr rfl))
    (hd : (x == ("__debug__" : Str)) = false := by decide) (hcd : (x == ("__classdict__" : Str)) = false := by decide)
    (ha : ∀ ov iv new, augStore n ov iv new = (do holding [new, ov, iv] (setItem ov iv new); release [new, ov, iv] []; pure .next) := by intros; rfl) :
    DS X W (.AugAssign (.Subscript (.Name x p1) n p2) op e p4) (tAugS (tVar i) ti te (rIxL X.K) (ipI f) rSetL) (uPutA f m i ui ue) := by
  refine ⟨ps_augS (pe_var hN hv hd hcd) hn.pe pget_list h.pe ho.ip set_list ha, fun R F0 H0 F H σ s k D rs c q => ?_⟩
  unfold uPutA at q
  split at q
  · next l el =>
    obtain ⟨a, xs, h1, h2, h3, h4, h5, h6, h7⟩ := rs.own_at el
    refine ⟨_, h1, ?_⟩
    refine hn.snd.run m rs c q fun v r F' H' g rs' rep p => ?_
    obtain ⟨F2, y, g2, rs2, d2, p2⟩ := rs.dat g rep p
    obtain ⟨a', ys, z1, z2, z3, z4, z5, z6, z7⟩ := rs2.own_at el
    rw [h1] at z1
    cases z1
    cases d2 with
    | int j =>
      dsimp only at p2
      split at p2
      · next jn e1 =>
        split at p2
        · next a0 e2 =>
          obtain ⟨w, e3, d3⟩ := z3.getH e2
          cases d3
          refine ⟨a, ys, j, _, rfl, rfl, .inl (.inl z2), by unfold atI; rw [z3.lengthH, e1]; exact e3, ?_⟩
          refine h.snd.run m rs2 c p2 fun w r F3 H3 g3 rs3 rep3 p3 => ?_
          obtain ⟨F4, z, g4, rs4, d4, p4⟩ := rs2.dat g3 rep3 p3
          obtain ⟨a', zs, y1, y2, y3, y4, y5, y6, y7⟩ := rs4.own_at el
          rw [h1] at y1
          cases y1
          cases d4 with
          | int b => exact ⟨a0, b, rfl, rfl, a, zs, j, jn, rfl, rfl, y2, by rw [y3.lengthH]; exact e1, c.nx F4 _ _ _ (y7 _ _ (y3.setH (.int _))) p4⟩
          | _ => exact p4.elim
        · exact p2.elim
      · exact p2.elim
    | _ => exact p2.elim
  · exact q.elim
end
end
end Pl

namespace Pl
open PySem L2
/-! ### what is walked -/
structure Wk (K : Fr) (R : Rg) (J : It) (l : List D) (F : Hp) : Prop where
  go : ∀ (i : Nat) (F1 H1 : Hp), Sub F F1 → Ok K R F1 H1 → i < l.length → J.go i H1
  yld : ∀ (i : Nat) (F1 H1 : Hp) (x : V) (H2 : Hp), Sub F F1 → Ok K R F1 H1 → J.yld i H1 x H2 → i < l.length → ∃ F2 d, l[i]? = some d ∧ Gr K R F1 H1 F2 H2 ∧ Dp K F2 x d
  stop : ∀ (F1 H1 : Hp), Sub F F1 → Ok K R F1 H1 → J.stop l.length H1
abbrev UI := Sl → (List D → Prop) → (Ex → Prop) → Prop
def SndI (K : Fr) (W : WX) (w : TI) (u : UI) : Prop := ∀ (R : Rg) (F H : Hp) (σ : St) (s : Sl) (P : List D → Prop) (PX : Ex → Prop) (Q : It → Hp → Prop), RepD K R F σ s → Ok K R F H → u s P PX →
  (∀ J l F' H', Gr K R F H F' H' → Wk K R J l F' → P l → Q J H') → Out K W R F H σ PX → w σ H Q
structure DI (X : Cx) (W : WX) (tg iter : Expr) (w : TI) (u : UI) : Prop where
  pi : PI X tg iter w
  snd : SndI X.K W w u
section
variable {X : Cx} {W : WX} {tg e a b : Expr} {te ta tb : TE} {ue ua ub : UE} {t : TA} {ut : UA} {pos p : Pos}
/-- a list or a tuple -/
def iSeq (K : Fr) (tl : TE) : TI := fun σ H Q => tl σ H fun x H1 => (∃ a, x = .ref a ∧ (∃ xs, SqL K H1 a xs) ∧ Q (Itl K a) H1) ∨ ∃ a, x = .ref a ∧ (∃ xs, SqT K H1 a xs) ∧ Q (Itt K a) H1
theorem pi_seq (hl : PE X e te) : PI X tg e (iSeq X.K te) := by
  refine ⟨fun pins s σ H R I h => thn (hl.run pins s σ H _ I h) fun v s1 ⟨x, H1, I1, r1, q1⟩ => ?_⟩
  have fresh : ∀ b ∈ [s1.heap.objs.size], FpOk X pins H1 b := fun b hb => by
    have eb : b = s1.heap.objs.size := by simpa using hb
    rw [eb]
    exact I1.fpOk (Nat.le_refl _) (I1.hok.fresh (Nat.le_refl _))
  rcases q1 with ⟨a, rfl, ⟨xs, hq⟩, q⟩ | ⟨a, rfl, ⟨xs, hq⟩, q⟩
  · cases r1
    obtain ⟨its, rv, pl, hz⟩ := I1.list hq
    exact wpAny_pyIter_list pl.isList ⟨s1.heap.objs.size, _, _, _, H1, rfl, I1.kept (t' := s1.toks) fun b o z => Heap.get?_push_of_some _ z, turn_list a _, ⟨_, Heap.get?_push_size _ rfl, rfl, rfl⟩, fresh, q⟩
  · cases r1
    obtain ⟨its, rv, pl, hz⟩ := I1.tuple hq
    exact wpAny_pyIter_tuple (show s1.heap.IsTuple a its.toArray from pl) ⟨s1.heap.objs.size, _, _, _, H1, rfl, I1.kept (t' := s1.toks) fun b o z => Heap.get?_push_of_some _ z, turn_tuple a _, ⟨_, Heap.get?_push_size _ rfl, rfl, rfl⟩, fresh, q⟩
theorem wk_list {K : Fr} {R : Rg} {F : Hp} {a : Addr} {xs : List V} {l : List D} (hs : SqL K F a xs) (ha : DpAll K F xs l) : Wk K R (Itl K a) l F where
  go := fun i F1 H1 s ok hi => ⟨xs, _, ok.sub.l (s.l hs), List.getElem?_eq_getElem (by rw [ha.lengthH]; exact hi)⟩
  yld := fun i F1 H1 x H2 s ok y hi => by
    obtain ⟨rfl, y⟩ := y
    obtain ⟨d, h1, h2⟩ := ha.getVH (y xs (ok.sub.l (s.l hs)))
    exact ⟨F1, d, h1, ok.refl, h2.subH s⟩
  stop := fun F1 H1 s ok => ⟨xs, ok.sub.l (s.l hs), by rw [ha.lengthH]; exact Nat.le_refl _⟩
theorem wk_tup {K : Fr} {R : Rg} {F : Hp} {a : Addr} {xs : List V} {l : List D} (hs : SqT K F a xs) (ha : DpAll K F xs l) : Wk K R (Itt K a) l F where
  go := fun i F1 H1 s ok hi => ⟨xs, _, ok.sub.t (s.t hs), List.getElem?_eq_getElem (by rw [ha.lengthH]; exact hi)⟩
  yld := fun i F1 H1 x H2 s ok y hi => by
    obtain ⟨rfl, y⟩ := y
    obtain ⟨d, h1, h2⟩ := ha.getVH (y xs (ok.sub.t (s.t hs)))
    exact ⟨F1, d, h1, ok.refl, h2.subH s⟩
  stop := fun F1 H1 s ok => ⟨xs, ok.sub.t (s.t hs), by rw [ha.lengthH]; exact Nat.le_refl _⟩
def onL (r : U) (k : List D → Prop) : Prop := onD r fun x => match x with
  | .list l => k l
  | .tuple l => k l
  | _ => False
def uSeqI (ue : UE) : UI := fun s P PX => ue s (fun r => onL r P) PX
theorem di_seq (h : DE X W e te ue) : DI X W tg e (iSeq X.K te) (uSeqI ue) := by
  refine ⟨pi_seq h.pe, fun R F H σ s P PX Q rd ok q c o => ?_⟩
  refine h.snd.dat rd ok q (fun v x F1 H1 g d q => ?_) o
  cases d with
  | @lst a xs l hs ha => exact .inl ⟨a, rfl, ⟨xs, g.ok.sub.l hs⟩, c _ l F1 H1 g (wk_list hs ha) q⟩
  | @tup a xs l hs ha => exact .inr ⟨a, rfl, ⟨xs, g.ok.sub.t hs⟩, c _ l F1 H1 g (wk_tup hs ha) q⟩
  | _ => exact q.elim
/-- the ints of a range -/
def rngD (lo : Int) (n : Nat) : List D := (List.range n).map fun i => .int (lo + (i : Nat))
theorem rngD_len (lo : Int) (n : Nat) : (rngD lo n).length = n := by simp [rngD]
theorem rngD_get {lo : Int} {n i : Nat} (h : i < n) : (rngD lo n)[i]? = some (.int (lo + (i : Nat))) := by simp [rngD, h]
theorem wk_rng {K : Fr} {R : Rg} {F : Hp} {lo : Int} {n : Nat} : Wk K R (Itr lo n) (rngD lo n) F where
  go := fun i F1 H1 s ok hi => by rw [rngD_len] at hi; exact hi
  yld := fun i F1 H1 x H2 s ok y hi => by
    obtain ⟨rfl, rfl⟩ := y
    rw [rngD_len] at hi
    exact ⟨F1, _, rngD_get hi, ok.refl, .int _⟩
  stop := fun F1 H1 s ok => by rw [rngD_len]; exact Nat.le_refl _
def rOk (i : Int) : Prop := -(2 ^ 62) ≤ i ∧ i < 2 ^ 62
def uRng1 (ue : UE) : UI := fun s P PX => ue s (fun r => onD r fun x => match x with
  | .int j => rOk j ∧ P (rngD 0 j.toNat)
  | _ => False) PX
def uRng2 (ua ub : UE) : UI := fun s P PX => ua s (fun r => onD r fun x => ub s (fun r' => onD r' fun y => match x, y with
  | .int i, .int j => rOk i ∧ rOk j ∧ P (rngD i (j - i).toNat)
  | _, _ => False) PX) PX
theorem di_rng1 (h : DE X W e te ue) (hg : Gl X "range") (hm : X.mg "range" = none) (hs : starEach [e] X.env = [(false, eval e X.env)] := by rfl) (hs2 : starEach (e :: []) X.env = (false, eval e X.env) :: starEach [] X.env := by rfl) :
    DI X W tg (.Call (.Name "range" p) [e] [] pos) (iRng1 (tCons te tNil)) (uRng1 ue) := by
  refine ⟨pi_range1 hg hm (pa_cons h.pe pa_nil hs2) hs, fun R F H σ s P PX Q rd ok q c o => ?_⟩
  refine h.snd.dat rd ok q (fun v x F1 H1 g d q => ?_) o
  cases d with
  | int j => exact ⟨j, rfl, q.1.1, q.1.2, c _ _ F1 H1 g wk_rng q.2⟩
  | _ => exact q.elim
theorem di_rng2 (h : DE X W a ta ua) (h' : DE X W b tb ub) (hg : Gl X "range") (hm : X.mg "range" = none) (hs : starEach [a, b] X.env = [(false, eval a X.env), (false, eval b X.env)] := by rfl) (hs2 : starEach [b] X.env = [(false, eval b X.env)] := by rfl)
    (hs3 : starEach (a :: [b]) X.env = (false, eval a X.env) :: starEach [b] X.env := by rfl) (hs4 : starEach (b :: []) X.env = (false, eval b X.env) :: starEach [] X.env := by rfl) :
    DI X W tg (.Call (.Name "range" p) [a, b] [] pos) (iRng2 (tCons ta (tCons tb tNil))) (uRng2 ua ub) := by
  refine ⟨pi_range2 hg hm (pa_cons h.pe (pa_cons h'.pe pa_nil hs4) hs3) hs hs2, fun R F H σ s P PX Q rd ok q c o => ?_⟩
  refine h.snd.dat rd ok q (fun v x F1 H1 g d q => ?_) o
  refine h'.snd.dat (rd.sub g.ex) g.ok q (fun w y F2 H2 g2 d2 q => ?_) (o.step g)
  cases d with
  | int i =>
    cases d2 with
    | int j => exact ⟨i, j, rfl, ⟨q.1.1, q.1.2, q.2.1.1, q.2.1.2⟩, c _ _ F2 H2 (g.trans g2) wk_rng q.2.2⟩
    | _ => exact q.elim
  | _ => cases d2 <;> exact q.elim

/-! ### targets -/
abbrev UG := D → Option (List (Nat × D))
def setU (s : Sl) : List (Nat × D) → Sl
  | [] => s
  | (i, d) :: r => setU (s.set i (some (.d d))) r
def setV (σ : St) : List (Nat × V) → St
  | [] => σ
  | (i, v) :: r => setV (σ.set i (some v)) r
def RepP (K : Fr) (F : Hp) : List (Nat × V) → List (Nat × D) → Prop
  | [], [] => True
  | (i, v) :: r, (j, d) :: r' => i = j ∧ Dp K F v d ∧ RepP K F r r'
  | _, _ => False
def SndG (K : Fr) (g : TG) (ug : UG) : Prop := ∀ (F H : Hp) (σ : St) (x : V) (d : D) (ps : List (Nat × D)) (Q : St → Hp → Prop), Sub F H → Dp K F x d → ug d = some ps → (∀ qs, RepP K F qs ps → Q (setV σ qs) H) → g x σ H Q
structure DG (X : Cx) (tg : Expr) (g : TG) (ug : UG) : Prop where
  pg : PG X tg g
  snd : SndG X.K g ug
def ugN (i : Nat) : UG := fun d => some [(i, d)]
theorem dg_name {x : Str} (i : Nat) (hN : X.N.Nodup) (hi : X.N[i]? = some x := by rfl) (hx : Loc X.env.scope x := by first | exact .inl rfl | exact .inr rfl) (hf : X.fn x = true ∨ X.env.scope.names.lookup x = some .local := by first | exact .inl rfl | exact .inr rfl) : DG X (.Name x pos) (gName i) (ugN i) :=
  ⟨pg_name hN hi hx hf, fun F H σ x d ps Q s h e q => by cases e; exact q [(i, x)] ⟨rfl, h, trivial⟩⟩
/-- (x, y) -/
def ugT2 (i j : Nat) : UG := fun d => match d with
  | .tuple [a, b] => some [(i, a), (j, b)]
  | _ => none
theorem dg_tup2 {x y : Str} {kk : Nat} {px py : Pos} (i j : Nat) (hc : X.calm = true) (hN : X.N.Nodup) (hi : X.N[i]? = some x := by rfl) (hj : X.N[j]? = some y := by rfl) (hx : Loc X.env.scope x := by first | exact .inl rfl | exact .inr rfl) (hy : Loc X.env.scope y := by first | exact .inl rfl | exact .inr rfl)
    (hf : X.fn x = true ∨ X.env.scope.names.lookup x = some .local := by first | exact .inl rfl | exact .inr rfl) (hf2 : X.fn y = true ∨ X.env.scope.names.lookup y = some .local := by first | exact .inl rfl | exact .inr rfl)
    (h1 : (assignEach [.Name x px, .Name y py] X.env).map (·.2) = assign (.Name x px) X.env :: (assignEach [.Name y py] X.env).map (·.2) := by rfl) (h2 : (assignEach [.Name y py] X.env).map (·.2) = assign (.Name y py) X.env :: (assignEach [] X.env).map (·.2) := by rfl)
    (hn : (assignEach [.Name x px, .Name y py] X.env).length = 2 := by rfl) (hst : (assignEach [.Name x px, .Name y py] X.env).findIdx? (·.1) = none := by rfl) :
    DG X (.Tuple [.Name x px, .Name y py] kk pos) (gTup X.K 2 (gCons (gName i) (gCons (gName j) gNil))) (ugT2 i j) := by
  refine ⟨pg_tup hc (pgs_cons (pg_name hN hi hx hf) (pgs_cons (pg_name hN hj hy hf2) pgs_nil h2) h1) hn hst, fun F H σ x d ps Q s h e q => ?_⟩
  unfold ugT2 at e
  split at e
  · next d1 d2 =>
    cases e
    cases h with
    | @tup a xs _ hs ha =>
      cases ha with
      | cons a1 b1 =>
        cases b1 with
        | cons a2 b2 =>
          cases b2
          exact ⟨a, _, rfl, s.t hs, rfl, _, _, rfl, _, _, rfl, rfl, q [(i, _), (j, _)] ⟨rfl, a1, rfl, a2, trivial⟩⟩
  · cases e
end
section
variable {K : Fr} {R : Rg} {F0 H0 F H : Hp} {σ : St} {s : Sl}
theorem RepS.puts : ∀ {ps : List (Nat × D)} {qs : List (Nat × V)} {σ : St} {s : Sl}, RepS K R F0 H0 F H σ s → RepP K F qs ps → RepS K R F0 H0 F H (setV σ qs) (setU s ps)
  | [], [], _, _, h, _ => h
  | (j, d) :: ps, (i, v) :: qs, σ1, s1, h, r => by
    obtain ⟨rfl, r1, r2⟩ := r
    exact RepS.puts (σ := σ1.set i (some v)) (s := s1.set i (some (.d d))) (RepS.put_d (i := i) h r1) r2
  | [], _ :: _, _, _, _, r => r.elim
  | _ :: _, [], _, _, _, r => r.elim
theorem RepD.put {i : Nat} {v : V} {d : D} (h : RepD K R F σ s) (r : Dp K F v d) : RepD K R F (σ.set i (some v)) (s.set i (some (.d d))) := by
  have hl := h.len
  refine ⟨by rw [List.length_set, List.length_set]; exact hl, fun j x e => ?_⟩
  rcases get_set e with ⟨rfl, e1, hi⟩ | ⟨n, e1⟩
  · cases e1
    exact ⟨v, List.getElem?_set_self (by omega), r⟩
  · obtain ⟨w, q1, q2⟩ := h.get j x e1
    exact ⟨w, by rw [List.getElem?_set_ne (Ne.symm n)]; exact q1, q2⟩
theorem RepD.puts : ∀ {ps : List (Nat × D)} {qs : List (Nat × V)} {σ : St} {s : Sl}, RepD K R F σ s → RepP K F qs ps → RepD K R F (setV σ qs) (setU s ps)
  | [], [], _, _, h, _ => h
  | (j, d) :: ps, (i, v) :: qs, σ1, s1, h, r => by
    obtain ⟨rfl, r1, r2⟩ := r
    exact RepD.puts (σ := σ1.set i (some v)) (s := s1.set i (some (.d d))) (RepD.put (i := i) h r1) r2
  | [], _ :: _, _, _, _, r => r.elim
  | _ :: _, [], _, _, _, r => r.elim
def wipeU (s : Sl) : List Nat → Sl
  | [] => s
  | v :: vs => (wipeU s vs).set v none
theorem RepD.wipe (h : RepD K R F σ s) : ∀ vs : List Nat, RepD K R F (L2.wipe σ vs) (wipeU s vs)
  | [] => h
  | v :: vs => by
    have h' := RepD.wipe h vs
    show RepD K R F ((L2.wipe σ vs).set v none) ((wipeU s vs).set v none)
    refine ⟨by rw [List.length_set, List.length_set]; exact h'.len, fun j x e => ?_⟩
    rcases get_set e with ⟨_, e1, _⟩ | ⟨n, e1⟩
    · cases e1
    · obtain ⟨w, q1, q2⟩ := h'.get j x e1
      exact ⟨w, by rw [List.getElem?_set_ne (Ne.symm n)]; exact q1, q2⟩
/-- what is stored at wiped places is wiped again -/
theorem wipe_get (vs : List Nat) (σ : St) (j : Nat) : (wipe σ vs)[j]? = if j ∈ vs then (σ[j]?).map (fun _ => none) else σ[j]? := by
  induction vs with
  | nil => simp [wipe]
  | cons v vs ih =>
    show ((wipe σ vs).set v none)[j]? = _
    by_cases e : v = j
    · subst e
      rw [if_pos List.mem_cons_self]
      by_cases hl : v < σ.length
      · rw [List.getElem?_set_self (by rw [wipe_length]; exact hl), List.getElem?_eq_getElem hl]; rfl
      · rw [List.getElem?_eq_none (by rw [List.length_set, wipe_length]; omega), List.getElem?_eq_none (by omega)]; rfl
    · rw [List.getElem?_set_ne e, ih]
      by_cases hm : j ∈ vs
      · rw [if_pos hm, if_pos (List.mem_cons_of_mem _ hm)]
      · rw [if_neg hm, if_neg (fun z => (List.mem_cons.mp z).elim (fun z => e z.symm) hm)]
theorem wipe_set {i : Nat} {v : V} {vs : List Nat} (h : i ∈ vs) : wipe (σ.set i (some v)) vs = wipe σ vs := by
  apply List.ext_getElem?
  intro j
  rw [wipe_get, wipe_get]
  by_cases e : j ∈ vs
  · rw [if_pos e, if_pos e]
    by_cases hj : i = j
    · subst hj
      by_cases hl : i < σ.length
      · rw [List.getElem?_set_self hl, List.getElem?_eq_getElem hl]; rfl
      · rw [List.set_eq_of_length_le (by omega)]
    · rw [List.getElem?_set_ne hj]
  · rw [if_neg e, if_neg e, List.getElem?_set_ne (fun z => e (by rw [← z]; exact h))]
theorem wipe_wipe {vs : List Nat} : wipe (wipe σ vs) vs = wipe σ vs := by
  apply List.ext_getElem?
  intro j
  rw [wipe_get, wipe_get]
  by_cases e : j ∈ vs
  · rw [if_pos e, if_pos e]; cases σ[j]? <;> rfl
  · rw [if_neg e, if_neg e]
theorem wipe_puts {vs : List Nat} : ∀ {ps : List (Nat × D)} {qs : List (Nat × V)} {σ : St}, RepP K F qs ps → (∀ p ∈ ps, p.1 ∈ vs) → wipe (setV σ qs) vs = wipe σ vs
  | [], [], _, _, _ => rfl
  | (j, d) :: ps, (i, v) :: qs, _, r, h => by
    obtain ⟨rfl, r1, r2⟩ := r
    exact (wipe_puts r2 fun p hp => h p (List.mem_cons_of_mem _ hp)).trans (wipe_set (h (i, d) List.mem_cons_self))
  | [], _ :: _, _, r, _ => r.elim
  | _ :: _, [], _, r, _ => r.elim
end

/-- another base of what is frozen -/
theorem RepS.rebase {K : Fr} {R : Rg} {F0 H0 F1 F H : Hp} {σ : St} {s : Sl} (h : RepS K R F0 H0 F H σ s) (s0 : Sub F0 F1) (s1 : Sub F1 F) : RepS K R F1 H0 F H σ s :=
  ⟨⟨s1, h.g.keep, fun b o e => (h.g.new b o e).imp (fun z => s0 b o z) fun z => z, h.g.ok⟩, h.live, h.len, h.sl⟩
theorem RepS.unbase {K : Fr} {R : Rg} {F0 H0 F1 H1 F H : Hp} {σ σ1 : St} {s s1 : Sl} (h : RepS K R F1 H0 F H σ s) (o : RepS K R F0 H0 F1 H1 σ1 s1) : RepS K R F0 H0 F H σ s :=
  ⟨⟨o.g.ex.trans h.g.ex, h.g.keep, fun b w e => (h.g.new b w e).elim (fun z => o.g.new b w z) .inr, h.g.ok⟩, h.live, h.len, h.sl⟩
theorem RepX.keep {K : Fr} {F : Hp} {cls : Value} {d : Option Addr} {x : Ex} (h : RepX K F cls d x) : RepX K F cls d x := h
theorem Cont.base {K : Fr} {W : WX} {R : Rg} {F0 H0 F1 H1 : Hp} {k : KS} {D : Ends} {σ1 : St} {s1 : Sl} (c : Cont K W R F0 H0 k D) (o : RepS K R F0 H0 F1 H1 σ1 s1) : Cont K W R F1 H0 k D :=
  ⟨fun F H σ s r q => c.nx F H σ s (r.unbase o) q, fun F H σ s v x r q z => c.rt F H σ s v x (r.unbase o) q z, fun F H σ s r q => c.bk F H σ s (r.unbase o) q, fun F H σ s r q => c.ct F H σ s (r.unbase o) q, fun F H σ s cls d x r q z => c.ex F H σ s cls d x (r.unbase o) q z⟩
/-! ### for, while -/
section
variable {X : Cx} {W : WX} {tg iter c : Expr} {body : List Stmt} {wi : TI} {ui : UI} {g : TG} {ug : UG} {tb : TS} {ub : US} {tt : TT} {ut : UT} {pos : Pos}
def uFor (ui : UI) (ug : UG) (ub : US) : US := fun k s => ui (vw false s) (fun l => ∃ Pv : Nat → Sl → Prop, Pv 0 s ∧ (∀ (i : Nat) (d : D) (s' : Sl), l[i]? = some d → Pv i s' →
  ∃ ps, ug d = some ps ∧ ub { k with nx := Pv (i + 1), ct := Pv (i + 1), bk := k.nx } (setU s' ps)) ∧ ∀ s', Pv l.length s' → k.nx s') (fun x => k.ex x s)
theorem ds_for (hp : PassesOwn (model X.prog X.w) X.A X.env X.xe) (hc : X.calm = true) (hi : DI X W tg iter wi ui) (hg : DG X tg g ug) (hb : DSs X W body tb ub)
    (hs : ∀ x, foldedSetIterable iter X.env x = pure x := by intro _; rfl) : DS X W (.For tg iter body [] pos) (tFor wi g tb) (uFor ui ug ub) := by
  refine ⟨ps_for hp hc hi.pi hg.pg hb.ps hs, fun R F0 H0 F H σ s k D rs c q => ?_⟩
  refine hi.snd R F H σ _ _ _ _ rs.hid rs.g.ok q (fun J l F1 H1 g1 wk q => ?_) fun cls d x F' H' g rep p => c.ex F' H' σ s cls d x (rs.grow g) rep p
  obtain ⟨Pv, p0, pt, pe⟩ := q
  refine ⟨fun i m σ' H' => m = l.length - i ∧ i ≤ l.length ∧ ∃ F' s', RepS X.K R F0 H0 F' H' σ' s' ∧ Sub F1 F' ∧ Pv i s', ⟨_, rfl, Nat.zero_le _, F1, s, rs.grow g1, Sub.refl, p0⟩, ?_⟩
  rintro i m σ' H' ⟨rfl, hi, F', s', rs', sub, pv⟩
  by_cases hlt : i < l.length
  · refine .inr ⟨wk.go i F' H' sub rs'.g.ok hlt, fun σ2 H2 => ∃ F2 s2, RepS X.K R F0 H0 F2 H2 σ2 s2 ∧ Sub F1 F2 ∧ Pv (i + 1) s2, fun σ2 H2 ⟨F2, s2, r2, sb2, p2⟩ => ⟨_, by omega, rfl, hlt, F2, s2, r2, sb2, p2⟩, fun x H2 y => ?_⟩
    obtain ⟨F2, d, hd, g2, dp⟩ := wk.yld i F' H' x H2 sub rs'.g.ok y hlt
    obtain ⟨ps, e1, hb2⟩ := pt i d s' hd pv
    have rs2 := rs'.grow g2
    refine hg.snd F2 H2 σ' x d ps _ g2.ok.sub dp e1 fun qs rp => ?_
    have sb2 : Sub F1 F2 := sub.trans g2.ex
    have again : ∀ F3 H3 σ3 s3, RepS X.K R F2 H0 F3 H3 σ3 s3 → Pv (i + 1) s3 → ∃ F4 s4, RepS X.K R F0 H0 F4 H3 σ3 s4 ∧ Sub F1 F4 ∧ Pv (i + 1) s4 := fun F3 H3 σ3 s3 r3 p3 => ⟨F3, s3, r3.unbase rs2, sb2.trans r3.g.ex, p3⟩
    have c2 : Cont X.K W R F2 H0 k D := c.base rs2
    exact hb.snd R F2 H0 F2 H2 _ _ { k with nx := Pv (i + 1), ct := Pv (i + 1), bk := k.nx } _ ((rs2.puts rp).rebase rs2.g.ex Sub.refl) ⟨again, c2.rt, c2.nx, again, c2.ex⟩ hb2
  · have e : i = l.length := by omega
    subst e
    exact .inl ⟨wk.stop F' H' sub rs'.g.ok, c.nx F' H' σ' s' rs' (pe s' pv)⟩
def uWhile (ut : UT) (m : Bool) (ub : US) : US := fun k s => ∃ W : Nat → Sl → Prop, (∃ n, W n s) ∧ ∀ n s', W n s' → evT m ut k s' fun b => if b = true then ub { k with nx := fun s2 => ∃ n', n' < n ∧ W n' s2, ct := fun s2 => ∃ n', n' < n ∧ W n' s2, bk := k.nx } s' else k.nx s'
theorem ds_while (m : Bool) (hp : PassesOwn (model X.prog X.w) X.A X.env X.xe) (hc : DT X W c tt ut) (hb : DSs X W body tb ub) : DS X W (.While c body [] pos) (tWhile tt tb) (uWhile ut m ub) := by
  refine ⟨ps_while hp hc.pt hb.ps, fun R F0 H0 F H σ s k D rs c q => ?_⟩
  obtain ⟨Wn, ⟨n0, w0⟩, turn⟩ := q
  refine ⟨fun n σ' H' => ∃ F' s', RepS X.K R F0 H0 F' H' σ' s' ∧ Wn n s', ⟨n0, F, s, rs, w0⟩, ?_⟩
  rintro n σ' H' ⟨F', s', rs', w'⟩
  refine hc.snd.run m rs' c (P := fun b => if b = true then ub { k with nx := fun s2 => ∃ n', n' < n ∧ Wn n' s2, ct := fun s2 => ∃ n', n' < n ∧ Wn n' s2, bk := k.nx } s' else k.nx s') (turn n s' w') fun b F2 H2 rs2 p => ?_
  cases b with
  | false => exact c.nx F2 H2 σ' s' rs2 p
  | true =>
    refine ⟨fun σ2 H2 => ∃ n', n' < n ∧ ∃ F' s', RepS X.K R F0 H0 F' H2 σ2 s' ∧ Wn n' s', fun σ2 H2 ⟨n', hn, z⟩ => ⟨n', hn, z⟩, ?_⟩
    have again : ∀ F3 H3 σ3 s3, RepS X.K R F0 H0 F3 H3 σ3 s3 → (∃ n', n' < n ∧ Wn n' s3) → ∃ n', n' < n ∧ ∃ F' s', RepS X.K R F0 H0 F' H3 σ3 s' ∧ Wn n' s' := fun F3 H3 σ3 s3 r3 ⟨n', hn, w3⟩ => ⟨n', hn, F3, s3, r3, w3⟩
    exact hb.snd R F0 H0 F2 H2 σ' s' { k with nx := fun s2 => ∃ n', n' < n ∧ Wn n' s2, ct := fun s2 => ∃ n', n' < n ∧ Wn n' s2, bk := k.nx } _ rs2 ⟨again, c.rt, c.nx, again, c.ex⟩ p
end

/-! ### comprehensions -/
section
variable {X : Cx} {W : WX} {elt tg iter : Expr} {ifs : List Expr} {scope : Scope} {own : List (Str × Nat)} {pos : Pos} {wi : TI} {ui : UI} {g : TG} {ug : UG} {tt : TT} {ut : UT} {te : TE} {ue : UE}
abbrev W0 : WX := fun _ _ _ _ => False
structure DTs (X : Cx) (ifs : List Expr) (t : TT) (u : UT) : Prop where
  pts : PTs X ifs t
  snd : SndT X.K W0 t u
def uYes : UT := fun _ P _ => P true
theorem dts_nil : DTs X [] tYes uYes := ⟨pts_nil, fun R F H σ s P PX Q rd ok q c o => c true F H ok.refl q⟩
theorem dts_one {c : Expr} (h : DT X W0 c tt ut) : DTs X [c] tt ut := ⟨pts_one h.pt, h.snd⟩
abbrev noX : Ex → Prop := fun _ => False
def uLc (ui : UI) (ug : UG) (ut : UT) (ue : UE) (vs : List Nat) : UE := fun s P PX => ui s (fun l => l.length ≤ sizeLine ∧ ∃ I : Nat → List D → Prop, I 0 [] ∧
  (∀ (i : Nat) (d : D) (acc : List D), l[i]? = some d → I i acc → ∃ ps, ug d = some ps ∧ (∀ p ∈ ps, p.1 ∈ vs) ∧
    ut (setU (wipeU s vs) ps) (fun b => if b = true then ue (setU (wipeU s vs) ps) (fun r => onD r fun y => I (i + 1) (acc ++ [y])) noX else I (i + 1) acc) noX) ∧ ∀ acc, acc.length ≤ l.length → I l.length acc → P (.own acc)) PX
theorem snd_lc {K : Fr} {vs : List Nat} (hi : SndI K W wi ui) (hg : SndG K g ug) (ht : SndT K W0 tt ut) (he : SndE K W0 te ue) : SndE K W (tLc wi g tt te vs) (uLc ui ug ut ue vs) := by
  intro R F H σ s P PX Q rd ok q c o
  refine hi R F H σ s _ PX _ rd ok q (fun J l F1 H1 g1 wk q => ?_) o
  obtain ⟨hz, I, i0, it, ie⟩ := q
  intro E hE
  have rd1 := (rd.sub g1.ex).wipe vs
  have hdE : ¬ R.a = some E := fun z => by
    obtain ⟨xs, _, _, e, _⟩ := g1.ok.inv E z
    rw [hE] at e; cases e
  have hF1 : F1 E = none := by
    cases e : F1 E with
    | none => rfl
    | some u => rw [g1.ok.sub E u e] at hE; cases hE
  refine ⟨fun i m H' => m = l.length - i ∧ i ≤ l.length ∧ ∃ F' xs acc, Gr K R F1 H1 F' H' ∧ F' E = none ∧ H' E = some (.lst xs) ∧ DpAll K F' xs acc ∧ acc.length ≤ i ∧ I i acc,
    ⟨_, rfl, Nat.zero_le _, F1, [], [], g1.ok.lay hE, hF1, upd_same, .nil, Nat.le_refl _, i0⟩, ?_⟩
  rintro i m H' ⟨rfl, hi2, F', xs, acc, gr, hF', hE', ha, hal, hI⟩
  -- from a later heap on: the list that is being made
  have ahead : ∀ F2 H2, Gr K R F' H' F2 H2 → F2 E = none ∧ H2 E = some (.lst xs) ∧ DpAll K F2 xs acc := fun F2 H2 g2 => by
    refine ⟨?_, g2.keep E _ hdE hE', ha.subH g2.ex⟩
    cases e : F2 E with
    | none => rfl
    | some u => rcases g2.new E u e with z | z
                · rw [hF'] at z; cases z
                · rw [hE'] at z; cases z
  by_cases hlt : i < l.length
  · refine .inr ⟨wk.go i F' H' gr.ex gr.ok hlt, fun H2 => ∃ F2 xs acc, Gr K R F1 H1 F2 H2 ∧ F2 E = none ∧ H2 E = some (.lst xs) ∧ DpAll K F2 xs acc ∧ acc.length ≤ i + 1 ∧ I (i + 1) acc,
      fun H2 ⟨F2, xs, acc, r⟩ => ⟨_, by omega, rfl, hlt, F2, xs, acc, r⟩, fun x H2 y => ?_⟩
    obtain ⟨F2, d, hd, g2, dp⟩ := wk.yld i F' H' x H2 gr.ex gr.ok y hlt
    obtain ⟨ps, e1, hin, q⟩ := it i d acc hd hI
    have rd2 := rd1.sub (gr.ex.trans g2.ex)
    refine hg F2 H2 _ x d ps _ g2.ok.sub dp e1 fun qs rp => ⟨?_, ?_⟩
    · rw [wipe_puts rp hin, wipe_wipe]
    · have rd3 := rd2.puts rp
      refine ht R F2 H2 _ _ _ noX _ rd3 g2.ok q (fun b F3 H3 g3 p => ?_) fun _ _ _ _ _ _ _ z => z
      have g23 := g2.trans g3
      cases b with
      | false =>
        obtain ⟨a1, a2, a3⟩ := ahead F3 H3 g23
        exact ⟨F3, xs, acc, gr.trans g23, a1, a2, a3, by omega, p⟩
      | true =>
        refine he.dat (rd3.sub g3.ex) g3.ok p (fun v y F4 H4 g4 dy p4 => ?_) fun _ _ _ _ _ _ _ z => z
        have g24 := g23.trans g4
        obtain ⟨a1, a2, a3⟩ := ahead F4 H4 g24
        have gA := gr.trans g24
        refine ⟨xs, a2, by rw [ha.lengthH]; omega, F4, xs ++ [v], acc ++ [y], ?_, a1, upd_same, a3.appendH (.cons dy .nil), by simp; omega, p4⟩
        refine ⟨gA.ex, fun b o n e => ?_, gA.new, ⟨fun b o e => ?_, gA.ok.dis, fun b hb => ?_, fun b hb => ?_⟩⟩
        · have nb : b ≠ E := fun z => by rw [z, hE] at e; cases e
          rw [upd_ne nb]; exact gA.keep b o n e
        · have nb : b ≠ E := fun z => by rw [z, a1] at e; cases e
          rw [upd_ne nb]; exact gA.ok.sub b o e
        · have nb : b ≠ E := fun z => hdE (by rw [← z]; exact hb)
          rw [upd_ne nb]; exact gA.ok.inv b hb
        · by_cases n : b = E
          · rw [n, upd_same]; simp
          · rw [upd_ne n]; exact gA.ok.alive b hb
  · have e : i = l.length := by omega
    subst e
    refine .inl ⟨wk.stop F' H' gr.ex gr.ok, ?_⟩
    have gg := g1.trans gr
    refine c _ (.own acc) F' H' gg ⟨E, xs, rfl, hE', ha, hF', ?_, hdE⟩ (ie acc hal hI)
    cases e : H E with
    | none => rfl
    | some u => rw [g1.keep E u hdE e] at hE; cases hE
theorem de_lc (hc : X.calm = true) (hN : X.N.Nodup) (hi : DI X W tg iter wi ui) (ok : BlkOk X.N X.env.scope scope own)
    (hg : ∀ (s : Shared) (H : Hp) (C : Addr) (cl : List (Str × Addr)) (fp : List Addr), DG (X.blk s H scope (compEnvC scope cl C X.env) fp) tg g ug) (ht : ∀ (s : Shared) (H : Hp) (C : Addr) (cl : List (Str × Addr)) (fp : List Addr), DTs (X.blk s H scope (compEnvC scope cl C X.env) fp) ifs tt ut)
    (he : ∀ (s : Shared) (H : Hp) (C : Addr) (cl : List (Str × Addr)) (fp : List Addr), DE (X.blk s H scope (compEnvC scope cl C X.env) fp) W0 elt te ue) (hs : ∀ x, foldedSetIterable iter X.env x = pure x := by intro _; rfl) :
    DE X W (.ListComp elt [⟨tg, iter, ifs, 0⟩] scope pos) (tLc wi g tt te (own.map (·.2))) (uLc ui ug ut ue (own.map (·.2))) :=
  ⟨pe_lc hc hN hi.pi ok (fun s H C cl fp => (hg s H C cl fp).pg) (fun s H C cl fp => (ht s H C cl fp).pts) (fun s H C cl fp => (he s H C cl fp).pe) hs,
    snd_lc hi.snd (hg X.s_0 X.H_0 0 [] []).snd (ht X.s_0 X.H_0 0 [] []).snd (he X.s_0 X.H_0 0 [] []).snd⟩
/-- y = [e for x in xs]: kept as data (o = false), as an owned list (o = true) -/
theorem ds_setLc {i : Nat} {y : Str} {py spos : Pos} (m : Bool) (hc : X.calm = true) (hN : X.N.Nodup) (hy : X.N[i]? = some y) (hyl : X.env.scope.names.lookup y = some .local) (hsw : swapsWith (.ListComp elt [⟨tg, iter, ifs, 0⟩] scope pos) (some (.Name y py)) spos.line X.env = pure true) (hi : DI X W tg iter wi ui) (ok : BlkOk X.N X.env.scope scope own)
    (hg : ∀ (s : Shared) (H : Hp) (C : Addr) (cl : List (Str × Addr)) (fp : List Addr), DG (X.blk s H scope (compEnvC scope cl C X.env) fp) tg g ug) (ht : ∀ (s : Shared) (H : Hp) (C : Addr) (cl : List (Str × Addr)) (fp : List Addr), DTs (X.blk s H scope (compEnvC scope cl C X.env) fp) ifs tt ut)
    (he : ∀ (s : Shared) (H : Hp) (C : Addr) (cl : List (Str × Addr)) (fp : List Addr), DE (X.blk s H scope (compEnvC scope cl C X.env) fp) W0 elt te ue) (hs : ∀ x, foldedSetIterable iter X.env x = pure x := by intro _; rfl) :
    DS X W (.Assign [.Name y py] (.ListComp elt [⟨tg, iter, ifs, 0⟩] scope pos) spos) (tAsg (tLc wi g tt te (own.map (·.2))) (gName i)) (uSet m i (uLc ui ug ut ue (own.map (·.2)))) :=
  ⟨ps_setLc hc hN hy hyl hsw hi.pi ok (fun s H C cl fp => (hg s H C cl fp).pg) (fun s H C cl fp => (ht s H C cl fp).pts) (fun s H C cl fp => (he s H C cl fp).pe) hs,
    snd_set m (snd_lc hi.snd (hg X.s_0 X.H_0 0 [] []).snd (ht X.s_0 X.H_0 0 [] []).snd (he X.s_0 X.H_0 0 [] []).snd)⟩
theorem ds_setLcO {i : Nat} {y : Str} {py spos : Pos} (m : Bool) (hc : X.calm = true) (hN : X.N.Nodup) (hy : X.N[i]? = some y) (hyl : X.env.scope.names.lookup y = some .local) (hsw : swapsWith (.ListComp elt [⟨tg, iter, ifs, 0⟩] scope pos) (some (.Name y py)) spos.line X.env = pure true) (hi : DI X W tg iter wi ui) (ok : BlkOk X.N X.env.scope scope own)
    (hg : ∀ (s : Shared) (H : Hp) (C : Addr) (cl : List (Str × Addr)) (fp : List Addr), DG (X.blk s H scope (compEnvC scope cl C X.env) fp) tg g ug) (ht : ∀ (s : Shared) (H : Hp) (C : Addr) (cl : List (Str × Addr)) (fp : List Addr), DTs (X.blk s H scope (compEnvC scope cl C X.env) fp) ifs tt ut)
    (he : ∀ (s : Shared) (H : Hp) (C : Addr) (cl : List (Str × Addr)) (fp : List Addr), DE (X.blk s H scope (compEnvC scope cl C X.env) fp) W0 elt te ue) (hs : ∀ x, foldedSetIterable iter X.env x = pure x := by intro _; rfl) :
    DS X W (.Assign [.Name y py] (.ListComp elt [⟨tg, iter, ifs, 0⟩] scope pos) spos) (tAsg (tLc wi g tt te (own.map (·.2))) (gName i)) (uSetO m i (uLc ui ug ut ue (own.map (·.2)))) :=
  ⟨ps_setLc hc hN hy hyl hsw hi.pi ok (fun s H C cl fp => (hg s H C cl fp).pg) (fun s H C cl fp => (ht s H C cl fp).pts) (fun s H C cl fp => (he s H C cl fp).pe) hs,
    snd_setO m (snd_lc hi.snd (hg X.s_0 X.H_0 0 [] []).snd (ht X.s_0 X.H_0 0 [] []).snd (he X.s_0 X.H_0 0 [] []).snd)⟩
end
end Pl

/-! ### enumerate of a list or a tuple -/
namespace Pl
open PySem L2
set_option maxHeartbeats 1000000 in
theorem enum_meets1 {v : Value} {o : Obj} {G : Heap → Prop} (B : Begins v o G) :
    Meets (Builtin.«enumerate.__new__» ⟨[.type "enumerate", v], []⟩) (fun _ R s => G s.heap ∧
      R (.ok (.ret (.ref (s.heap.push o).objs.size))) { s with heap := (s.heap.push o).push { cls := .type "enumerate", data := .fields #[.none, .bool false, .ref s.heap.objs.size, rawInt 0, .none, .none] } }) :=
  .of_wp fun prog w A R s hyp => by
    obtain ⟨hp, gs, dr, tk, os⟩ := s
    obtain ⟨g1, fin⟩ := hyp
    have sub := sub_enumerate
    have begun : ∀ {A' : Around} {E : Value → Shared → Prop} {Q : Value → Shared → Prop}, Q (.ref hp.objs.size) ⟨hp.push o, gs, dr, tk, os⟩ → wpAny (model prog w) A' (pyIter v) Q E ⟨hp, gs, dr, tk, os⟩ :=
      fun q => B.iter prog w _ _ ⟨hp, gs, dr, tk, os⟩ _ g1 q
    wp_walk using begun
    refine wpAny_stack_any fun stk => wpAny_pure ?_
    split
    · rename_i cl _ _ _ _ _
      cases (cl == Value.type "enumerate") <;> (wp_walk using begun; exact ⟨_, rfl, fin⟩)
    · wp_walk using begun
      exact ⟨_, rfl, fin⟩
theorem enum_call1 {prog : Program} {w : World} {A : Around} {E : Value → Shared → Prop} {s : Shared} {v : Value} {o : Obj} {G : Heap → Prop} {Q : Value → Shared → Prop} (B : Begins v o G) (g1 : G s.heap)
    (fin : ∀ h', IsEnum h' (s.heap.objs.size + 1) s.heap.objs.size 0 .none → h'.get? s.heap.objs.size = some o → (∀ b u, s.heap.get? b = some u → h'.get? b = some u) → Q (.ref (s.heap.objs.size + 1)) { s with heap := h' }) :
    wpAny (model prog w) A (call (.type "enumerate") [v]) Q E s := by
  have z : (s.heap.push o).objs.size = s.heap.objs.size + 1 := Heap.size_push ..
  have top : ((s.heap.push o).push { cls := .type "enumerate", data := .fields #[.none, .bool false, .ref s.heap.objs.size, rawInt 0, .none, .none] }).get? (s.heap.objs.size + 1) = some { cls := .type "enumerate", data := .fields #[.none, .bool false, .ref s.heap.objs.size, rawInt 0, .none, .none] } := by
    rw [← z]; exact Heap.get?_push_size _ rfl
  refine callType_new F.called_enumerate (by decide) (F.typeCall_enumerate_1 _) (F.newCall_enumerate_1 _) (fun ob => F.args_object_init_2 ob _) F.entry_enumerate_new (enum_meets1 B) ⟨g1, ?_⟩
  show _ ∧ _
  rw [z]
  exact ⟨⟨_, top, rfl⟩, fin _ top (Heap.get?_push_of_some _ (Heap.get?_push_size _ B.free)) fun b u y => Heap.get?_push_of_some _ (Heap.get?_push_of_some _ y)⟩
section
open PyProof.Rows
theorem apart_tup {h : Heap} {a it : Addr} {i : Nat} {its : Array Value} (h1 : h.IsTupleIter it a i) (h2 : IsTup h a its) : a ≠ it := fun z => by
  obtain ⟨o, ho, hc, _⟩ := h1
  obtain ⟨o', ho', hc', _⟩ := h2
  rw [z, ho] at ho'
  cases ho'
  rw [hc] at hc'
  exact absurd hc' (by decide)
theorem apart_enum {h : Heap} {a e it : Addr} {k : Int} {old : Value} {its : Array Value} (h1 : IsEnum h e it k old) (h2 : IsTup h a its) : e ≠ a := fun z => by
  obtain ⟨o', ho', hc', _⟩ := h2
  rw [← z, (show h.get? e = some _ from h1)] at ho'
  cases ho'
  exact absurd (show Value.type "enumerate" = Value.type "tuple" from hc') (by decide)
/-- the items of a tuple, each in a new pair with its place -/
def Iet (K : Fr) (a : Addr) (xs : List V) : It :=
  ⟨fun i H => SqT K H a xs ∧ i < xs.length, fun i H v H' => ∃ T x, v = .ref T ∧ H T = none ∧ H' = upd H T (.tup [.int (i : Nat), x]) ∧ xs[i]? = some x, fun i H => SqT K H a xs ∧ xs.length = i⟩
theorem turn_enumT {P : Program} {w : World} {K : Fr} {elts : List Expr} {kk : Nat} {tpos : Pos} (a e it : Addr) (xs : List V) :
    Turn P w K (.Tuple elts kk tpos) (Iet K a xs) [e, it] e (fun i h => (∃ old, IsEnum h e it (0 + ((i : Nat) : Int)) old) ∧ h.IsTupleIter it a i ∧ e ≠ it) where
  mem := List.mem_cons_self
  obj := fun i h st b hb => by
    obtain ⟨⟨old, he⟩, ⟨o, ho, hc, hd⟩, _⟩ := st
    rcases List.mem_cons.mp hb with z | z
    · rw [z]; exact ⟨_, he, fun v q => nomatch q⟩
    · rw [List.mem_singleton.mp z]; exact ⟨o, ho, fun v q => by rw [hd] at q; cases q⟩
  keep := fun i h h' st k => ⟨st.1.imp fun old he => k e (by simp) _ he, st.2.1.at fun o q => k it (by simp) o q, st.2.2⟩
  item := by
    intro X hP hw hK hc i pins s σ H E I hf st hg
    subst hP hw hK
    obtain ⟨hen, hit, hne⟩ := st
    obtain ⟨hq, hi⟩ := hg
    obtain ⟨its, rv, pl, hz⟩ := I.tuple hq
    have hl := rv.length
    have ne : a ≠ it := apart_tup hit pl
    have eA : e ≠ a := by
      obtain ⟨old, he⟩ := hen
      exact apart_enum he pl
    have G := GoesN.enumFrom (elts := elts) (x1 := kk) (pos := tpos) 0 (Draws.tuple (prog := X.prog) (w := X.w) (A := X.A.in1) (I.ok.hd hc) it a ne its.toArray) e hne (by simp [hne, eA]) (by simp)
    refine G.goes i s (fun v s₂ => ∃ x H', Inv X pins σ H' s₂ ∧ RelV x v ∧ (Iet X.K a xs).yld i H x H' ∧ (fun (i : Nat) h => (∃ old, IsEnum h e it (0 + ((i : Nat) : Int)) old) ∧ h.IsTupleIter it a i ∧ e ≠ it) (i + 1) s₂.heap ∧ ∀ b ∈ [e, it], H' b = none) E (by simp; omega) ⟨hen, hit, pl⟩ fun v h' tk y st' hk htk => ?_
    obtain ⟨T, t, u, rfl, hT, hu, hTu⟩ := y
    have hu' : its[i]? = some u := by simpa using hu
    obtain ⟨x, hx⟩ : ∃ x, xs[i]? = some x := ⟨_, List.getElem?_eq_getElem hi⟩
    obtain ⟨u2, hu2, ru⟩ := rv.get hx
    rw [hu'] at hu2
    cases hu2
    have e0 : (0 : Int) + (i : Int) = ((i : Nat) : Int) := Int.zero_add _
    have new : ObjOk X.prog X.w (upd H T (.tup [.int (i : Nat), x])) h' T (.tup [.int (i : Nat), x]) :=
      ⟨by show 2 ≤ sizeLine; decide, [.int (0 + (i : Int)) t, u], .cons ⟨t, by rw [e0]⟩ (.cons ru .nil), hTu⟩
    have I1 : Inv X pins σ (upd H T (.tup [.int (i : Nat), x])) { s with heap := h', toks := tk } := I.turnedNew (ch := [e, it]) (fun b ob hb q => hk b ob hb q) hf hT new
    refine ⟨.ref T, _, I1, rfl, ⟨T, x, rfl, I.hok.fresh hT, rfl, hx⟩, ⟨st'.1, st'.2.1, hne⟩, fun b hb => ?_⟩
    have hbs : b < s.heap.objs.size := by
      obtain ⟨old, he⟩ := hen
      obtain ⟨o, ho, _⟩ := hit
      rcases List.mem_cons.mp hb with z | z
      · rw [z]; exact Heap.lt_size he
      · rw [List.mem_singleton.mp z]; exact Heap.lt_size ho
    rw [upd_ne (Nat.ne_of_lt (Nat.lt_of_lt_of_le hbs hT))]
    exact (hf b hb).1
  done := by
    intro X hP hw hK hc i pins s σ H E I hf st hg
    subst hP hw hK
    obtain ⟨hen, hit, hne⟩ := st
    obtain ⟨hq, hi⟩ := hg
    obtain ⟨its, rv, pl, hz⟩ := I.tuple hq
    have hl := rv.length
    have ne : a ≠ it := apart_tup hit pl
    have eA : e ≠ a := by
      obtain ⟨old, he⟩ := hen
      exact apart_enum he pl
    obtain ⟨old, he⟩ := hen
    obtain ⟨f0, f1, f2, f3, f4, f5⟩ := hf it (by simp)
    have e1 : its.toArray.size = i := by simp; omega
    exact wpAny_pyNext_enum_endD (Draws.tuple (prog := X.prog) (w := X.w) (A := X.A.in1) (I.ok.hd hc) it a ne its.toArray) he ⟨by rw [e1]; exact hit, pl⟩ fun h' eb => ⟨rfl, I.turned (t' := s.toks) (fun b o hb q => eb b o hb q) f0 f1 f3 f4 f5⟩
  self := fun A i s Q E st h => by obtain ⟨⟨_, he⟩, _⟩ := st; exact wpAny_pyIter_enum he h
def iEnumA (K : Fr) (ta : TA) : TI := fun σ H Q => ta σ H fun vs H1 => (∃ a, vs = [.ref a] ∧ (∃ xs, SqL K H1 a xs) ∧ Q (Ite K a) H1) ∨ ∃ a xs, vs = [.ref a] ∧ SqT K H1 a xs ∧ Q (Iet K a xs) H1
section
variable {X : Cx} {W : WX} {e : Expr} {te : TE} {ta : TA} {ue : UE} {p pos tpos : Pos} {elts : List Expr} {kk : Nat}
theorem pi_enumA (hg : Gl X "enumerate") (hm : X.mg "enumerate" = none) (he : PA X [e] ta) (hs : starEach [e] X.env = [(false, eval e X.env)] := by rfl) :
    PI X (.Tuple elts kk tpos) (.Call (.Name "enumerate" p) [e] [] pos) (iEnumA X.K ta) := by
  refine ⟨fun pins s σ H R I h => ?_⟩
  refine Call_ (ld_blt I hg hm boot_enumerate (PyProof.Rows.callWith_type1 (thn (he.run pos pins s σ H _ I h) fun us s1 ⟨vs, H1, I1, r1, q⟩ => ?_) hs rfl))
  have far : ∀ b, b ∈ [s1.heap.objs.size + 1, s1.heap.objs.size] → FpOk X pins H1 b := fun b hb => by
    have le : s1.heap.objs.size ≤ b := by
      rcases List.mem_cons.mp hb with z | z
      · rw [z]; exact Nat.le_succ _
      · rw [List.mem_singleton.mp z]; exact Nat.le_refl _
    exact I1.fpOk le (I1.hok.fresh le)
  rcases q with ⟨a, rfl, ⟨xs, hq⟩, q⟩ | ⟨a, xs, rfl, hq, q⟩
  · cases r1 with
    | cons r rr =>
      cases rr
      cases r
      obtain ⟨its, rv, pl, hz⟩ := I1.list hq
      refine enum_call1 (begins_list a its.toArray) pl.isList fun h' hen hit hk => wpAny_pyIter_enum hen ?_
      exact ⟨s1.heap.objs.size + 1, _, _, _, H1, rfl, I1.kept (t' := s1.toks) hk, turn_enum a (s1.heap.objs.size + 1) s1.heap.objs.size, ⟨⟨.none, hen⟩, ⟨_, hit, rfl, rfl⟩, Nat.succ_ne_self _⟩, far, q⟩
  · cases r1 with
    | cons r rr =>
      cases rr
      cases r
      obtain ⟨its, rv, pl, hz⟩ := I1.tuple hq
      refine enum_call1 (begins_tuple a its.toArray) (show s1.heap.IsTuple a its.toArray from pl) fun h' hen hit hk => wpAny_pyIter_enum hen ?_
      exact ⟨s1.heap.objs.size + 1, _, _, _, H1, rfl, I1.kept (t' := s1.toks) hk, turn_enumT a (s1.heap.objs.size + 1) s1.heap.objs.size xs, ⟨⟨.none, hen⟩, ⟨_, hit, rfl, rfl⟩, Nat.succ_ne_self _⟩, far, q⟩
/-- the pairs of place and item -/
def enD (l : List D) : List D := l.mapIdx fun i x => .tuple [.int (i : Nat), x]
theorem enD_len (l : List D) : (enD l).length = l.length := by simp [enD]
theorem enD_get {l : List D} {i : Nat} {x : D} (h : l[i]? = some x) : (enD l)[i]? = some (.tuple [.int (i : Nat), x]) := by simp [enD, h]
theorem wk_pair {K : Fr} {R : Rg} {F1 H1 : Hp} {T : Addr} {i : Nat} {v : V} {x : D} (ok : Ok K R F1 H1) (hT : H1 T = none) (d : Dp K F1 v x) : ∃ F2, Gr K R F1 H1 F2 (upd H1 T (.tup [.int (i : Nat), v])) ∧ Dp K F2 (.ref T) (.tuple [.int (i : Nat), x]) := by
  have g := ok.frz (o := .tup [.int (i : Nat), v]) hT
  exact ⟨_, g, .tup (.inl (.inl upd_same)) (.cons (.int _) (.cons (d.subH g.ex) .nil))⟩
theorem wk_enL {K : Fr} {R : Rg} {F : Hp} {a : Addr} {xs : List V} {l : List D} (hs : SqL K F a xs) (ha : DpAll K F xs l) : Wk K R (Ite K a) (enD l) F where
  go := fun i F1 H1 s ok hi => by rw [enD_len] at hi; exact ⟨xs, _, ok.sub.l (s.l hs), List.getElem?_eq_getElem (by rw [ha.lengthH]; exact hi)⟩
  yld := fun i F1 H1 x H2 s ok y hi => by
    obtain ⟨T, v, rfl, hT, rfl, y⟩ := y
    obtain ⟨d, h1, h2⟩ := ha.getVH (y xs (ok.sub.l (s.l hs)))
    obtain ⟨F2, g, q⟩ := wk_pair (i := i) ok hT (h2.subH s)
    exact ⟨F2, _, enD_get h1, g, q⟩
  stop := fun F1 H1 s ok => ⟨xs, ok.sub.l (s.l hs), by rw [enD_len, ha.lengthH]; exact Nat.le_refl _⟩
theorem wk_enT {K : Fr} {R : Rg} {F : Hp} {a : Addr} {xs : List V} {l : List D} (hs : SqT K F a xs) (ha : DpAll K F xs l) : Wk K R (Iet K a xs) (enD l) F where
  go := fun i F1 H1 s ok hi => by rw [enD_len] at hi; exact ⟨ok.sub.t (s.t hs), by rw [ha.lengthH]; exact hi⟩
  yld := fun i F1 H1 x H2 s ok y hi => by
    obtain ⟨T, v, rfl, hT, rfl, y⟩ := y
    obtain ⟨d, h1, h2⟩ := ha.getVH y
    obtain ⟨F2, g, q⟩ := wk_pair (i := i) ok hT (h2.subH s)
    exact ⟨F2, _, enD_get h1, g, q⟩
  stop := fun F1 H1 s ok => ⟨ok.sub.t (s.t hs), by rw [enD_len, ha.lengthH]⟩
def uEnum (ue : UE) : UI := fun s P PX => ue s (fun r => onL r fun l => P (enD l)) PX
theorem di_enum (h : DE X W e te ue) (hg : Gl X "enumerate") (hm : X.mg "enumerate" = none) (hs : starEach [e] X.env = [(false, eval e X.env)] := by rfl) (hs2 : starEach (e :: []) X.env = (false, eval e X.env) :: starEach [] X.env := by rfl) :
    DI X W (.Tuple elts kk tpos) (.Call (.Name "enumerate" p) [e] [] pos) (iEnumA X.K (tCons te tNil)) (uEnum ue) := by
  refine ⟨pi_enumA hg hm (pa_cons h.pe pa_nil hs2) hs, fun R F H σ s P PX Q rd ok q c o => ?_⟩
  refine h.snd.dat rd ok q (fun v x F1 H1 g d q => ?_) o
  cases d with
  | @lst a xs l hs ha => exact .inl ⟨a, rfl, ⟨xs, g.ok.sub.l hs⟩, c _ _ F1 H1 g (wk_enL hs ha) q⟩
  | @tup a xs l hs ha => exact .inr ⟨a, xs, rfl, g.ok.sub.t hs, c _ _ F1 H1 g (wk_enT hs ha) q⟩
  | _ => exact q.elim
end
end
end Pl

namespace Pl
open PySem L2
/-! ### isinstance -/
inductive Ty where
  | int | bool | str | tup | lst
def Ty.s : Ty → String
  | .int => "int"
  | .bool => "bool"
  | .str => "str"
  | .tup => "tuple"
  | .lst => "list"
def isT : Ty → D → Bool
  | .int, .int _ => true
  | .int, .bool _ => true
  | .bool, .bool _ => true
  | .str, .str _ => true
  | .tup, .tuple _ => true
  | .lst, .list _ => true
  | _, _ => false
def tyN : D → String
  | .none => "NoneType"
  | .bool _ => "bool"
  | .int _ => "int"
  | .str _ => "str"
  | .list _ => "list"
  | .tuple _ => "tuple"
  | .dict _ => "dict"
theorem kit_is (T : Ty) (x : D) (h : ∀ l, x ≠ .dict l) : kitB (tyN x) T.s = some (isT T x) := by
  cases x with
  | dict l => exact absurd rfl (h l)
  | none => cases T <;> first | (show kitB "NoneType" _ = some true; decide +kernel) | (show kitB "NoneType" _ = some false; decide +kernel)
  | bool b => cases T <;> first | (show kitB "bool" _ = some true; decide +kernel) | (show kitB "bool" _ = some false; decide +kernel)
  | int b => cases T <;> first | (show kitB "int" _ = some true; decide +kernel) | (show kitB "int" _ = some false; decide +kernel)
  | str b => cases T <;> first | (show kitB "str" _ = some true; decide +kernel) | (show kitB "str" _ = some false; decide +kernel)
  | list b => cases T <;> first | (show kitB "list" _ = some true; decide +kernel) | (show kitB "list" _ = some false; decide +kernel)
  | tuple b => cases T <;> first | (show kitB "tuple" _ = some true; decide +kernel) | (show kitB "tuple" _ = some false; decide +kernel)
theorem tyx {K : Fr} {F H : Hp} {v : V} {x : D} (s : Sub F H) (h : Dp K F v x) : TyX K H v (.type (tyN x)) ∧ ∀ l, x ≠ .dict l := by
  cases h with
  | non => exact ⟨.base .non, fun l z => by cases z⟩
  | bl b => exact ⟨.base (.bl b), fun l z => by cases z⟩
  | int i => exact ⟨.base (.int i), fun l z => by cases z⟩
  | str y => exact ⟨.base (.str y), fun l z => by cases z⟩
  | @lst a xs l hs ha =>
    refine ⟨?_, fun l z => by cases z⟩
    rcases hs with (hs | ⟨o, hs⟩) | ⟨o, its, n, hk, hc, _⟩
    · exact .base (.lst (s a _ hs))
    · exact .base (.frz (s a _ hs))
    · exact .kList hk hc
  | @tup a xs l hs ha =>
    refine ⟨?_, fun l z => by cases z⟩
    rcases hs with (hs | ⟨o, hs⟩) | ⟨o, its, n, hk, hc, _⟩
    · exact .base (.tup (s a _ hs))
    · exact .fTuple (s a _ hs)
    · exact .kTuple hk hc
section
variable {X : Cx} {W : WX} {e : Expr} {es : List Expr} {te : TE} {ue : UE} {t : TA} {ut : UA} {pos p p2 p3 : Pos}
def uIs (T : Ty) (ue : UE) : UE := fun s P PX => ue s (fun r => onD r fun x => P (.d (.bool (isT T x)))) PX
theorem de_is {nm : Str} (T : Ty) (h : DE X W e te ue) (hg : Gl X "isinstance") (hm : X.mg "isinstance" = none) (hv : bootBuiltins "isinstance" = some (.builtin "isinstance")) (hg2 : Gl X nm) (hm2 : X.mg nm = none) (hv2 : bootBuiltins nm = some (.type T.s)) (hn2 : nm ≠ "__name__" := by decide) (hd2 : (nm == ("__debug__" : Str)) = false := by decide)
    (he : starEach (e :: [.Name nm p2]) X.env = (false, eval e X.env) :: starEach [.Name nm p2] X.env := by rfl) (he2 : starEach (.Name nm p2 :: []) X.env = (false, eval (.Name nm p2) X.env) :: starEach [] X.env := by rfl) (hpl : (backTo pos (starEach [.Name nm p2] X.env)).any (·.1) = false := by rfl) :
    DE X W (.Call (.Name "isinstance" p) [e, .Name nm p2] [] pos) (tCB (rIsi X.K) (tCons te (tCons (tC (.ty T.s)) tNil))) (uIs T ue) := by
  refine ⟨pe_callB call_isi hg hm hv (pa_cons h.pe (pa_cons (pe_bltn hg2 hm2 hv2 rfl hn2 hd2) pa_nil he2) he) (by decide) (by decide) he hpl, fun R F H σ s P PX Q rd ok q c o => ?_⟩
  refine h.snd.dat rd ok q (fun v x F1 H1 g d q => ?_) o
  obtain ⟨ty, nd⟩ := tyx g.ok.sub d
  exact ⟨v, .ty T.s, _, _, _, rfl, .ty T.s, ty, kit_ty (kit_is T x nd), c _ (.d (.bool _)) F1 H1 g (.bl _) q⟩
/-- isinstance(e, (T1, T2)) -/
def uIs2 (T T' : Ty) (ue : UE) : UE := fun s P PX => ue s (fun r => onD r fun x => P (.d (.bool (isT T x || isT T' x)))) PX
theorem de_is2 {nm nm' : Str} {kk : Nat} {p4 : Pos} (T T' : Ty) (h : DE X W e te ue) (hg : Gl X "isinstance") (hm : X.mg "isinstance" = none) (hv : bootBuiltins "isinstance" = some (.builtin "isinstance")) (hg2 : Gl X nm) (hm2 : X.mg nm = none) (hv2 : bootBuiltins nm = some (.type T.s)) (hg3 : Gl X nm') (hm3 : X.mg nm' = none) (hv3 : bootBuiltins nm' = some (.type T'.s))
    (hn2 : nm ≠ "__name__" := by decide) (hd2 : (nm == ("__debug__" : Str)) = false := by decide) (hn3 : nm' ≠ "__name__" := by decide) (hd3 : (nm' == ("__debug__" : Str)) = false := by decide)
    (he : starEach (e :: [.Tuple [.Name nm p2, .Name nm' p3] kk p4]) X.env = (false, eval e X.env) :: starEach [.Tuple [.Name nm p2, .Name nm' p3] kk p4] X.env := by rfl) (he2 : starEach (.Tuple [.Name nm p2, .Name nm' p3] kk p4 :: []) X.env = (false, eval (.Tuple [.Name nm p2, .Name nm' p3] kk p4) X.env) :: starEach [] X.env := by rfl)
    (he3 : starEach (.Name nm p2 :: [.Name nm' p3]) X.env = (false, eval (.Name nm p2) X.env) :: starEach [.Name nm' p3] X.env := by rfl) (he4 : starEach (.Name nm' p3 :: []) X.env = (false, eval (.Name nm' p3) X.env) :: starEach [] X.env := by rfl) (hpl : (backTo pos (starEach [.Tuple [.Name nm p2, .Name nm' p3] kk p4] X.env)).any (·.1) = false := by rfl) :
    DE X W (.Call (.Name "isinstance" p) [e, .Tuple [.Name nm p2, .Name nm' p3] kk p4] [] pos) (tCB (rIsiT X.K) (tCons te (tCons (tTup (tCons (tC (.ty T.s)) (tCons (tC (.ty T'.s)) tNil))) tNil))) (uIs2 T T' ue) := by
  refine ⟨pe_callB call_isiT hg hm hv (pa_cons h.pe (pa_cons (pe_tup (pa_cons (pe_bltn hg2 hm2 hv2 rfl hn2 hd2) (pa_cons (pe_bltn hg3 hm3 hv3 rfl hn3 hd3) pa_nil he4) he3)) pa_nil he2) he) (by decide) (by decide) he hpl, fun R F H σ s P PX Q rd ok q c o => ?_⟩
  refine h.snd.dat rd ok q (fun v x F1 H1 g d q => ⟨by show 2 ≤ sizeLine; decide, fun pp hp => ?_⟩) o
  have g2 := g.ok.lay (o := .tup [.ty T.s, .ty T'.s]) hp
  obtain ⟨ty, nd⟩ := tyx (g.trans g2).ok.sub (d.subH g2.ex)
  refine ⟨v, pp, _, _, _, _, rfl, upd_same, .cons (.ty _) (.cons (.ty _) .nil), ty, ?_, c _ (.d (.bool (isT T x || isT T' x))) F1 _ (g.trans g2) (.bl _) q⟩
  refine kitAny_cons (kit_ty (kit_is T x nd)) (fun z => ?_) fun z => by rw [z]; rfl
  refine kitAny_cons (kit_ty (kit_is T' x nd)) (fun z' => ?_) fun z' => by rw [z, z']; rfl
  rw [z, z']
  exact kitAny_nil
end

/-! ### own functions: a promise over data -/
abbrev Fn := List U → (U → Prop) → (Ex → Prop) → Prop
def SpD (K : Fr) (n : Nat) (f : Fn) : Sp := fun vs H Q E => ∃ (R : Rg) (F : Hp) (as : List U) (P : U → Prop) (PX : Ex → Prop), Ok K R F H ∧ RepAs K R F vs as ∧ as.length = n ∧ f as P PX ∧
  (∀ v r F' H', Gr K R F H F' H' → RepR K R H F' H' v r → P r → Q v H') ∧ ∀ cls d x F' H', Gr K R F H F' H' → RepX K F' cls d x → PX x → E cls d H'
theorem RepAs.len {K : Fr} {R : Rg} {F : Hp} : ∀ {vs : List V} {rs : List U}, RepAs K R F vs rs → vs.length = rs.length
  | [], [], _ => rfl
  | _ :: _, _ :: _, h => by rw [List.length_cons, List.length_cons, RepAs.len h.2]
  | [], _ :: _, h => h.elim
  | _ :: _, [], h => h.elim
theorem SpD.len {K : Fr} {n : Nat} {f : Fn} {vs : List V} {H : Hp} {Q : VK} {E : XK} (h : SpD K n f vs H Q E) : vs.length = n := by
  obtain ⟨R, F, as, P, PX, _, ra, hn, _⟩ := h
  rw [ra.len, hn]
def startU (N : List Str) (as : List U) : Sl := as.map some ++ List.replicate (N.length - as.length) none
def kOf (P : U → Prop) (PX : Ex → Prop) : KS := ⟨fun _ => P (.d .none), fun r _ => P r, fun _ => False, fun _ => False, fun x _ => PX x⟩
theorem start_len (N : List Str) (vs : List V) (h : vs.length ≤ N.length) : (L2.start N vs).length = N.length := by
  unfold L2.start; rw [List.length_append, List.length_map, List.length_replicate]; omega
theorem startU_len (N : List Str) (vs : List U) (h : vs.length ≤ N.length) : (startU N vs).length = N.length := by
  unfold startU; rw [List.length_append, List.length_map, List.length_replicate]; omega
theorem RepAs.get {K : Fr} {R : Rg} {F : Hp} : ∀ {vs : List V} {rs : List U} {i : Nat} {r : U}, RepAs K R F vs rs → rs[i]? = some r → ∃ v, vs[i]? = some v ∧ RepA K R F v r
  | v :: _, r :: _, 0, _, h, e => by cases e; exact ⟨v, rfl, h.1⟩
  | _ :: _, _ :: _, i + 1, _, h, e => by simpa using RepAs.get (i := i) h.2 (by simpa using e)
  | [], [], _, _, _, e => by simp at e
  | [], _ :: _, _, _, h, _ => h.elim
  | _ :: _, [], _, _, h, _ => h.elim
theorem repS_start {K : Fr} {R : Rg} {F H : Hp} {vs : List V} {as : List U} {N : List Str} (ok : Ok K R F H) (ra : RepAs K R F vs as) (hN : as.length ≤ N.length) : RepS K R F H F H (L2.start N vs) (startU N as) := by
  have hl := ra.len
  have gets : ∀ (i : Nat) (r : U), (startU N as)[i]? = some (some r) → ∃ v, (L2.start N vs)[i]? = some (some v) ∧ RepA K R F v r := fun i r e => by
    unfold startU at e
    by_cases hi : i < as.length
    · rw [List.getElem?_append_left (by simpa using hi), List.getElem?_map] at e
      obtain ⟨r', e1, e2⟩ := Option.map_eq_some_iff.mp e
      cases e2
      obtain ⟨v, h1, h2⟩ := ra.get e1
      refine ⟨v, ?_, h2⟩
      unfold L2.start
      rw [List.getElem?_append_left (by rw [List.length_map]; omega), List.getElem?_map, h1]
      rfl
    · rw [List.getElem?_append_right (by simpa using hi), List.getElem?_replicate] at e
      split at e
      · cases e
      · cases e
  have noown : ∀ (i : Nat) (l : List D), (startU N as)[i]? = some (some (.own l)) → False := fun i l e => (gets i _ e).elim fun v h => h.2
  refine ⟨ok.refl, fun b hb z => ?_, by rw [start_len _ _ (by omega), startU_len _ _ hN], fun _ => 0, fun i r e => ?_, fun i j l m e _ _ => (noown i l e).elim⟩
  · obtain ⟨xs, _, _, e, _⟩ := ok.inv b hb
    rw [z] at e; cases e
  · obtain ⟨v, h1, h2⟩ := gets i r e
    refine ⟨v, h1, ?_⟩
    cases r with
    | d x => exact h2
    | hold V => exact h2
    | exc a dd fs => exact h2
    | own l => exact h2.elim
section
variable {P : Program} {w : World} {K : Fr} {mg : Str → Option Value} {base : Heap}
/-- THE RULE of a def -/
theorem fnD {x qual : Str} {st : Stmt} {f : Addr} {fd : FuncData} {N ps : List Str} {k : Nat} {fn : Fn} (F : Fun K x qual st f fd) (S : FnScope N ps (defScope st)) (hN : ps.length ≤ N.length)
    (hbody : ∀ (cdv : Value) (A : Around) (outer : List Env) (s : Shared) (H : Hp) (E : XK), Room k (A.deeper (PyProof.Rows.envOfC qual (defScope st) s.heap.objs.size f cdv)) →
      ∃ t u, DSs (cxOf (L2.CX P w) P w K mg base N qual (defScope st) f cdv A outer s H E) (fun cls d _ H => E cls d H) (defBody st) t u ∧ ∀ (as : List U) (P : U → Prop) (PX : Ex → Prop), as.length = ps.length → fn as P PX → u (kOf P PX) (startU N as)) :
    FnOk P w K mg base (L2.CX P w) (k + 1) f fd ps (SpD K ps.length fn) := by
  refine F.okX S (fun vs H Q E h => h.len) fun cdv A outer s H vs Q E hr hsp => ?_
  obtain ⟨t, u, hd, hp⟩ := hbody cdv A outer s H E hr
  obtain ⟨R, F1, as, PP, PX, ok, ra, hn, hf, hQ, hE⟩ := hsp
  refine ⟨t, hd.ps, hd.snd R F1 H F1 H _ _ (kOf PP PX) _ (repS_start ok ra (by omega)) ⟨fun F' H' σ s r q => ?_, fun F' H' σ s v x r rep q => hQ v x F' H' r.g rep q, fun _ _ _ _ _ q => q, fun _ _ _ _ _ q => q, fun F' H' σ s cls d x r rep q => hE cls d x F' H' r.g rep q⟩ (hp as PP PX hn hf)⟩
  exact hQ .non (.d .none) F' H' r.g .non q
end
/-! ### calls of own functions -/
section
variable {X : Cx} {W : WX} {e : Expr} {es : List Expr} {t : TA} {ut : UA} {pos p : Pos} {k n : Nat} {f : Addr} {fd : FuncData} {ps : List Str} {fn : Fn} {x : Str}
abbrev Air (X : Cx) (W : WX) : Prop := ∀ σ, PassesAt (L2.CX X.prog X.w) X σ (WE W σ)
theorem air0 : Air X W0 := fun σ pins H s e s' I c => by
  obtain ⟨_, _, _, _, _, _, _, _, _, _, _, _, z⟩ := c
  exact z.elim
def uCall (n : Nat) (f : Fn) (ut : UA) : UE := fun s P PX => ut s (fun rs => rs.length = n ∧ f rs P PX) PX
theorem de_call (F : FnOk X.prog X.w X.K X.mg X.base (L2.CX X.prog X.w) k f fd ps (SpD X.K n fn)) (hr : Room k X.A) (hg : Gl X x) (hm : X.mg x = some (.ref f)) (hk : PySem.W.keepIn X.K (.ref f) = true) (hb : Binds X.K fd ps []) (air : Air X W) (ha : DA X W (e :: es) t ut)
    (hdb : (x == ("__debug__" : Str)) = false := by decide) (he : starEach (e :: es) X.env = (false, eval e X.env) :: starEach es X.env := by rfl) (hpl : (backTo pos (starEach es X.env)).any (·.1) = false := by rfl) :
    DE X W (.Call (.Name x p) (e :: es) [] pos) (tCallS (SpD X.K n fn) (WE W) t) (uCall n fn ut) := by
  refine ⟨pe_callS F hr hg hm hk hb air ha.pa hdb he hpl, fun R F1 H σ s P PX Q rd ok q c o => ?_⟩
  refine ha.snd R F1 H σ s _ PX _ rd ok q (fun vs rs F2 H2 g ras q => ?_) o
  exact ⟨R, F2, rs, P, PX, g.ok, ras, q.1, q.2, fun v r F3 H3 g3 rep p => c v r F3 H3 (g.trans g3) (rep.back g) p, fun cls d x F3 H3 g3 rep p => o cls d x F3 H3 (g.trans g3) rep p⟩
/-- the values in another order -/
def pick {α : Type} (d : α) (π : List Nat) (l : List α) : List α := π.map fun i => l.getD i d
structure KB (K : Fr) (fd : FuncData) (ps ks : List Str) (m : Nat) (π : List Nat) : Prop where
  to : ∀ (s : Shared) (us ws : List Value), K.In s.heap → us.length = m → ws.length = ks.length → BindsTo s fd ⟨us, ks.zip ws⟩ (ps.zip (pick .none π (us ++ ws)))
theorem pick_vals {π : List Nat} {vs : List V} {us : List Value} (r : Vals vs us) : Vals (pick .non π vs) (pick .none π us) := by
  unfold pick
  induction π with
  | nil => exact .nil
  | cons i π ih =>
    refine .cons ?_ ih
    cases e : vs[i]? with
    | none =>
      have e2 := r.none_of e
      simp only [List.getD_eq_getElem?_getD, e, e2]
      rfl
    | some v =>
      obtain ⟨u, e2, ru⟩ := r.get e
      simp only [List.getD_eq_getElem?_getD, e, e2]
      exact ru
theorem pick_as {K : Fr} {R : Rg} {F : Hp} {π : List Nat} {vs : List V} {rs : List U} (r : RepAs K R F vs rs) : RepAs K R F (pick .non π vs) (pick (.d .none) π rs) := by
  have hl := r.len
  unfold pick
  induction π with
  | nil => trivial
  | cons i π ih =>
    refine ⟨?_, ih⟩
    cases e : rs[i]? with
    | none =>
      have e2 : vs[i]? = none := List.getElem?_eq_none_iff.mpr (by have := List.getElem?_eq_none_iff.mp e; omega)
      simp only [List.getD_eq_getElem?_getD, e, e2]
      exact Dp.non
    | some v =>
      obtain ⟨u, e2, ru⟩ := r.get e
      simp only [List.getD_eq_getElem?_getD, e, e2]
      exact ru
theorem RepAs.app {K : Fr} {R : Rg} {F : Hp} : ∀ {vs ws : List V} {rs qs : List U}, RepAs K R F vs rs → RepAs K R F ws qs → RepAs K R F (vs ++ ws) (rs ++ qs)
  | [], _, [], _, _, h => h
  | _ :: _, _, _ :: _, _, h, h' => ⟨h.1, RepAs.app h.2 h'⟩
  | [], _, _ :: _, _, h, _ => h.elim
  | _ :: _, _, [], _, h, _ => h.elim
/-- keywords' values -/
structure DK (X : Cx) (W : WX) (kws : List Keyword) (t : TA) (u : UA) : Prop where
  pk : PK X kws t
  snd : SndA X.K W t u
theorem dk_nil : DK X W [] tNil uNil := ⟨pk_nil, fun R F H σ s P PX Q rd ok q c o => c [] [] F H ok.refl trivial q⟩
theorem dk_cons {te : TE} {ue : UE} {nm : Option Str} {kpos : Pos} {kws : List Keyword} (h : DE X W e te ue) (hr : DK X W kws t ut) : DK X W (⟨nm, e, kpos⟩ :: kws) (tCons te t) (uCons ue ut) := by
  refine ⟨pk_cons h.pe hr.pk, fun R F H σ s P PX Q rd ok q c o => ?_⟩
  refine h.snd R F H σ s _ PX _ rd ok q (fun v r F1 H1 g rep q1 => ?_) o
  obtain ⟨F2, g2, ra⟩ := rep.arg g
  refine hr.snd R F2 H1 σ s _ PX _ (rd.sub g2.ex) g2.ok q1 (fun vs rs F3 H3 g3 ras q3 => ?_) (o.step g2)
  exact c (v :: vs) (argU r :: rs) F3 H3 (g2.trans g3) ⟨ra.sub g3.ex, ras⟩ q3
def tCallP (sp : Sp) (π : List Nat) (n1 n2 : Nat) (E : St → XK) (t tk : TA) : TE := fun σ H Q => t σ H fun vs H1 => tk σ H1 fun zs H2 => vs.length = n1 ∧ zs.length = n2 ∧ sp (pick .non π (vs ++ zs)) H2 Q (E σ)
theorem run_P {pins : List (Addr × Obj)} {σ : St} {H : Hp} {s : Shared} {Q : VK} {us ws : List Value} {vs zs : List V} {ks : List Str} {m : Nat} {π : List Nat} {sp : Sp} {E : St → XK} (F : FnOk X.prog X.w X.K X.mg X.base (L2.CX X.prog X.w) k f fd ps sp) (hr : Room k X.A) (hb : KB X.K fd ps ks m π) (hx : PassesAt (L2.CX X.prog X.w) X σ (E σ))
    (I : Inv X pins σ H s) (r : Vals vs us) (rz : Vals zs ws) (l1 : vs.length = m) (l2 : zs.length = ks.length) (h : sp (pick .non π (vs ++ zs)) H Q (E σ)) : wpAny (model X.prog X.w) X.A (call (.ref f) us (ks.zip ws)) (EP X pins σ Q) X.xe s := by
  have b := hb.to s us ws I.kIn (by rw [← r.length]; exact l1) (by rw [← rz.length]; exact l2)
  refine wpAny_call (codeAny_mono (F.run X.A X.stack s H ⟨us, ks.zip ws⟩ (pick .none π (us ++ ws)) (pick .non π (vs ++ zs)) Q (E σ) hr I.env0 b (pick_vals (r.append rz)) h) fun res s' hq => ?_)
  cases res with
  | error er => exact hx pins H s er s' I hq
  | ok fl =>
    cases fl with
    | ret u => exact I.after hq
    | next => exact False.elim hq
    | brk => exact False.elim hq
    | cont => exact False.elim hq
def uCallP (n : Nat) (f : Fn) (π : List Nat) (n1 n2 : Nat) (ut uk : UA) : UE := fun s P PX => ut s (fun rs => uk s (fun qs => rs.length = n1 ∧ qs.length = n2 ∧ (pick (U.d .none) π (rs ++ qs)).length = n ∧ f (pick (.d .none) π (rs ++ qs)) P PX) PX) PX
variable {kws : List Keyword} {ks : List Str} {tk : TA} {uk : UA} {π : List Nat} {m : Nat}
theorem snd_P {K : Fr} {n1 n2 : Nat} (ha : SndA K W t ut) (hk : SndA K W tk uk) : SndE K W (tCallP (SpD K n fn) π n1 n2 (WE W) t tk) (uCallP n fn π n1 n2 ut uk) := by
  intro R F1 H σ s P PX Q rd ok q c o
  refine ha R F1 H σ s _ PX _ rd ok q (fun vs rs F2 H2 g ras q => ?_) o
  refine hk R F2 H2 σ s _ PX _ (rd.sub g.ex) g.ok q (fun zs qs F3 H3 g3 rqs q => ?_) (o.step g)
  obtain ⟨e1, e2, e3, q⟩ := q
  have gg := g.trans g3
  exact ⟨by rw [ras.len]; exact e1, by rw [rqs.len]; exact e2, R, F3, _, P, PX, g3.ok, pick_as ((RepAs.sub g3.ex ras).app rqs), e3, q, fun v r F4 H4 g4 rep p => c v r F4 H4 (gg.trans g4) (rep.back gg) p, fun cls d x F4 H4 g4 rep p => o cls d x F4 H4 (gg.trans g4) rep p⟩
/-- f(k = v, ..) -/
theorem de_callK0 (F : FnOk X.prog X.w X.K X.mg X.base (L2.CX X.prog X.w) k f fd ps (SpD X.K n fn)) (hr : Room k X.A) (hg : Gl X x) (hm : X.mg x = some (.ref f)) (hkp : PySem.W.keepIn X.K (.ref f) = true) (hb : KB X.K fd ps ks 0 π) (air : Air X W) (hk : DK X W kws tk uk)
    (hall : (backToKw pos (keywordEach kws X.env)).all (·.1.isSome) = true := by rfl) (hks : (backToKw pos (keywordEach kws X.env)).filterMap (·.1) = ks := by rfl) (hdb : (x == ("__debug__" : Str)) = false := by decide)
    (hpl : ((backTo pos (starEach [] X.env)).any (·.1) || (backToKw pos (keywordEach kws X.env)).any (·.1.isNone)) = false := by rfl) :
    DE X W (.Call (.Name x p) [] kws pos) (tCallP (SpD X.K n fn) π 0 ks.length (WE W) tNil tk) (uCallP n fn π 0 ks.length uNil uk) := by
  refine ⟨⟨fun pins s σ H Q I h => ?_⟩, snd_P da_nil.snd hk.snd⟩
  refine wpAny_Call_Name_kw (ld_glob I hg hm ?_ hdb)
  refine PySem.W.callWith_KW0 (h₀ := X.base) I.ok.mod.kin hkp hall ?_ hpl
  refine thn (hk.pk.run pos pins s σ H _ I h) fun ws s2 ⟨zs, H2, I2, rz, l1, l2, q2⟩ => ⟨I2.kIn, ?_⟩
  rw [hks]
  exact run_P F hr hb (air σ) I2 .nil rz l1 l2 q2
/-- f(e, .., k = v, ..) -/
theorem de_callK (F : FnOk X.prog X.w X.K X.mg X.base (L2.CX X.prog X.w) k f fd ps (SpD X.K n fn)) (hr : Room k X.A) (hg : Gl X x) (hm : X.mg x = some (.ref f)) (hkp : PySem.W.keepIn X.K (.ref f) = true) (hb : KB X.K fd ps ks m π) (air : Air X W) (ha : DA X W (e :: es) t ut) (hk : DK X W kws tk uk)
    (hall : (backToKw pos (keywordEach kws X.env)).all (·.1.isSome) = true := by rfl) (hks : (backToKw pos (keywordEach kws X.env)).filterMap (·.1) = ks := by rfl) (hdb : (x == ("__debug__" : Str)) = false := by decide) (he : starEach (e :: es) X.env = (false, eval e X.env) :: starEach es X.env := by rfl)
    (hpl : ((backTo pos (starEach (e :: es) X.env)).any (·.1) || (backToKw pos (keywordEach kws X.env)).any (·.1.isNone)) = false := by rfl) :
    DE X W (.Call (.Name x p) (e :: es) kws pos) (tCallP (SpD X.K n fn) π m ks.length (WE W) t tk) (uCallP n fn π m ks.length ut uk) := by
  refine ⟨⟨fun pins s σ H Q I h => ?_⟩, snd_P ha.snd hk.snd⟩
  refine wpAny_Call_Name_kw (ld_glob I hg hm ?_ hdb)
  refine PySem.W.callWith_KW (h₀ := X.base) I.ok.mod.kin hkp hall (thn (ha.pa.run pos pins s σ H _ I h) fun us s1 ⟨vs, H1, I1, r, q⟩ => ?_) hpl he
  refine thn (hk.pk.run pos pins s1 σ H1 _ I1 q) fun ws s2 ⟨zs, H2, I2, rz, l1, l2, q2⟩ => ⟨I2.kIn, ?_⟩
  rw [hks]
  exact run_P F hr hb (air σ) I2 r rz l1 l2 q2
end
end Pl

/-! ### an own error: class .. (.. (ValueError)) with def __init__(self, word, at): super().__init__(text); self.word = word; self.at = at -/
namespace PySem
namespace XSup
open PySem.W PySem.Calls PyProof.Rows PySem.HandSPX
def xA (p1 p2 p3 : Pos) : Arguments := { posonlyargs := [], args := [{ arg := "self", annotation := none, pos := p1 }, { arg := "word", annotation := none, pos := p2 }, { arg := "at", annotation := none, pos := p3 }], vararg := none, kwonlyargs := [], kw_defaults := [], kwarg := none, defaults := [] }
def xB (msg : Str) (j : Nat) (q : Nat → Pos) : List Stmt :=
  [.Expr (.Call (.Attribute (.Call (.Name "super" (q 0)) [] [] (q 1)) "__init__" (q 2)) [.Constant (.str msg) j (q 3)] [] (q 4)) (q 5),
   .Assign [.Attribute (.Name "self" (q 6)) "word" (q 7)] (.Name "word" (q 8)) (q 9),
   .Assign [.Attribute (.Name "self" (q 10)) "at" (q 11)] (.Name "at" (q 12)) (q 13)]
def xS : Scope := { kind := .function, names := [(PySem.Str.ofString "self", .local), (PySem.Str.ofString "word", .local), (PySem.Str.ofString "at", .local), (PySem.Str.ofString "__class__", .free), (PySem.Str.ofString "super", .globalImplicit)], isGenerator := false, isCoroutine := false, more := [] }
/-- what the written part says of the class at C and of its __init__ at fI -/
structure Txt (P : Program) (K : Frag) (C fI : Addr) (nm : Str) : Prop where
  cls : ∃ nm q N bs bm sn sub ab col dd k0 k1 k2 k3 k5, K.lookup C = some (excClassObj nm q C N bs bm true sn sub ab col dd k0 k1 k2 k3 k5 "ValueError.__new__") ∧ refsVE bm = true
  sa : findIn K (.ref C) "__setattr__" = some (some (.builtin "object.__setattr__"))
  noW : findIn K (.ref C) "word" = some none
  noA : findIn K (.ref C) "at" = some none
  iC : findIn K (.ref C) "__init__" = some (some (.ref fI))
  tC : typeIn K (.ref fI) = some (.type "function")
  kC : keepIn K (.ref C) = true
  exC : subIn K (.ref C) (.type "BaseException") = some true
  veC : subIn K (.ref C) (.type "ValueError") = some true
  tyC : typeIn K (.ref C) = some (.type "type")
  meC : mroIn K C (.ref C) = some true
  supC : ks_superIn K C C "__init__" = some (some (.builtin "ValueError.__init__"))
  reB : refsVE [.type "ValueError", .type "Exception", .type "BaseException", .type "object"] = true := by rfl
  opq : nsIn K cStatics "thirdparty.any" = some none
  fn : ∃ (oc : Value) (od : Option Addr) (dV kV doc pm : Value) (an : Option Addr) (cda : Addr) (ct : Value) (cc : Addr) (osl : Array (Option Value)) (qual msg : Str) (j : Nat) (p1 p2 p3 : Pos) (q : Nat → Pos) (ccl : Value) (cdd : Option Addr) (vs : Array Value) (ccs : Array (Option Value)) (file : Str) (tf : Tok) (cl : Value) (cld : Option Addr) (csl : Array (Option Value)),
    K.lookup fI = some ⟨oc, od, .func (ksFn "__init__" qual (xA p1 p2 p3) (xB msg j q) xS dV kV doc pm an (.ref cda) ct cc), osl⟩ ∧ codeIn K (.ref cda) qual = true ∧ dV = .none ∧ kV = .none ∧
    K.lookup cda = some ⟨ccl, cdd, .fields vs, ccs⟩ ∧ vs[2]? = some (.str file tf) ∧ ((P.main.file : Str) == file) = true ∧ ((q 2).endLine == (q 4).line) = true ∧ K.lookup cc = some ⟨cl, cld, .cell (some (.ref C)), csl⟩
  top : (P.main.scope.names.lookup ("super" : Str)).isSome = false
section
variable {prog : Program} {w : World} {A : Around} {E : Value → Shared → Prop} {h : Heap} {g : Array GenState} {d : Drawn} {t : Nat} {os : OsState}
variable {nm q : Str} {C N : Addr} {bs bm : List Value} {hdct : Bool} {sn : List Str} {sub : List Value} {ab : Bool} {col : Option Bool} {dd : Option Addr} {k0 k1 k2 k3 k5 : Option Value}
theorem call_mw {u e t0 : Addr} {rest : List Value} {Q : Value → Shared → Prop}
    (hC : h.get? C = some (excClassObj nm q C N bs bm hdct sn sub ab col dd k0 k1 k2 k3 k5 "ValueError.__new__")) (he : h.get? e = some (excO C t0)) (hu : h.get? u = some (kxs_mw "ValueError.__init__" e)) (hrest : rest.length ≤ sizeLine)
    (hq : ∀ h' t1, (∀ b o, b ≠ e → h.get? b = some o → h'.get? b = some o) → h'.get? e = some (excO C t1) → Q .none ⟨h', g, d, t, os⟩) :
    wpAny (model prog w) A (call (.ref u) rest) Q E ⟨h, g, d, t, os⟩ := by
  refine wpAny_call (codeAny_of_tree ?_)
  show wpAny _ A.in1 (callAny (.ref u) ⟨rest, []⟩) _ _ _
  simp only [callAny]
  refine wpAny_bind (wpAny_load hu ?_)
  simp only [kxs_mw, show (Value.type "method-wrapper" == Value.type "method" || Value.type "method-wrapper" == Value.type "builtin_function_or_method" || Value.type "method-wrapper" == Value.type "method-wrapper") = true by decide, if_true]
  refine KFB.if_so (by decide) ?_
  refine wpAny_bind (check_bound_init F.excBase_ValueError.toExcCallFacts hC he rfl ?_)
  refine wpAny_bind (wpAny_pure (wpAny_pure ?_))
  refine ⟨plainId_quiet F.excBase_ValueError.init.plain _, codeAny_builtin F.excBase_ValueError.initEntry ?_⟩
  exact exc_init_tree (cls := .ref C) (t0 := t0) (dv := none) (c2 := .none) (c3 := .none) (b4 := .bool false) he hrest fun h' k e' _ => hq h' _ k e'
end
theorem he_of {o : Expr} {name : Str} {apos pos p3 : Pos} {env : Env} {c : Const} {j : Nat} (h : (apos.endLine == pos.line) = true) : eval (.Call (.Attribute o name apos) [.Constant c j p3] [] pos) env = (do
      let ov ← attributeBase o name env (eval o env)
      standAt apos.atName
      let (f, first) ← holding [ov] (getMethod ov name (do return (← importBound o env).getD true))
      callWith pos f first (backTo pos (starEach [.Constant c j p3] env)) []) := by
  have hform : methodCallForm ([Expr.Constant c j p3].length + ([] : List Keyword).length) (backTo pos (starEach [.Constant c j p3] env)) (backToKw pos (keywordEach [] env)) = true := rfl
  have hpos : methodCallPos true o env apos pos = pure pos := by unfold methodCallPos; simp [h]
  rw [arm_eval_Call]
  unfold methodCall
  rw [hform, hpos]
  rfl
section
variable {prog : Program} {w : World} {A : Around} {E : Value → Shared → Prop} {R : Result → Shared → Prop} {s : Shared} {K : Frag} {C fI : Addr} {nm : Str}
theorem init_run (T : Txt prog K C fI nm) {x t0 : Addr} {v1 v2 : Value} {mg mb : Str → Option Value} (X : K.In s.heap) (hlim : s.heap.NoLimit) (hG : s.heap.Ns mainGlobals mg) (hgs : mg "super" = none) (hB : s.heap.Ns builtinsNs mb) (hbs : mb "super" = some (.type "super")) (hx : s.heap.get? x = some (excO C t0)) (hnx : K.lookup x = none) (hroom : A.depth < recursionLimit)
    (hq : ∀ h' tk dx t1, (∀ b o, b ≠ x → s.heap.get? b = some o → h'.get? b = some o) → s.heap.objs.size ≤ dx → dx ≠ x → h'.get? x = some { cls := .ref C, dict := some dx, data := .fields #[.ref t1, .none, .none, .none, .bool false, .none] } →
      h'.Ns1 dx (fun y => if y = "at" then some v2 else if y = "word" then some v1 else none) → R (.ok (.ret .none)) { s with heap := h', toks := tk }) :
    codeAny (model prog w) A (.call (.ref fI) ⟨[.ref x, v1, v2], []⟩) R s := by
  obtain ⟨oc, od, dV, kV, doc, pm, an, cda, ct, cc, osl, qual, msg, j, p1, p2, p3, q, ccl, cdd, vs, ccs, file, tf, cl, cld, csl, ho, hcd, rfl, rfl, hcda, hvs, hfile, hline, hcc⟩ := T.fn
  obtain ⟨nm', qn, N, bs, bm, sn, sub, ab, col, dd, k0, k1, k2, k3, k5, hC, hbm⟩ := T.cls
  have hcl : clsIn K C = some { name := nm', bases := bs, mro := .ref C :: bm, ns := N, qualname := qn, hasDict := true, slotNames := sn, subclasses := sub, abstract := ab, collection := col, hasDel := false } := by unfold clsIn; rw [hC] <;> rfl
  refine ks_codeAny_call_defAt (fd := ksFn "__init__" qual (xA p1 p2 p3) (xB msg j q) xS .none .none doc pm an (.ref cda) ct cc) (body := xB msg j q) (binds := [("self", .ref x), ("word", v1), ("at", v2)]) hroom (X _ _ ho) rfl hlim (codeRec_of X hcd) rfl
    (BindsTo.of_eq (by first | rfl | with_unfolding_all rfl)) (by show ∀ x ∈ xS.names, _; decide) (by intro y hy; simp at hy; rcases hy with rfl | rfl | rfl <;> rfl) (fun h₁ hn k => ?_) rfl rfl rfl
  have X₁ : K.In h₁ := X.keeps k
  have hx₁ := k _ _ hx
  have hG₁ : h₁.Ns mainGlobals mg := hG.keeps k
  have hB₁ : h₁.Ns builtinsNs mb := hB.keeps k
  have hD1 := X₁ _ _ hC
  have ne : x ≠ C := fun z => by rw [z] at hnx; rw [hC] at hnx; cases hnx
  obtain ⟨hp, g, dr, tk, os⟩ := s
  dsimp only at *
  have I₁ : InstAt h₁ x (excO C t0) C none := ⟨hx₁, rfl, rfl, trivial⟩
  refine ks_wpAt_execs_cons (ks_wpAt_Expr_any (ks_wpAt_MethodCall (ks_wpAt_super_base (env := ksEnv qual xS hp.objs.size fI (.ref cda) cc) (by rfl) (by rfl) (by rfl) rfl (X₁ _ _ ho) rfl (by rfl) rfl (X₁ _ _ hcda) rfl hvs hfile T.top ?_) (he_of hline)))
  refine ks_loadName_global rfl (by rfl) (loadGlobal_builtin (env := ksEnv qual xS hp.objs.size fI (.ref cda) cc) hG₁ hgs hB₁ hbs ⟨rfl, ?_⟩)
  refine wpAny_loadName_free rfl (by rfl) rfl ⟨_, X₁ _ _ hcc, rfl⟩ ?_
  refine wpAny_loadName_local rfl (by rfl) hn (by rfl) ?_
  refine ks_wpAny_isType_cls hD1 rfl ⟨rfl, ?_⟩
  refine ks_wpAny_call_super hD1 rfl I₁.at_ I₁.cls (fun c e => by cases e) (looks_mroIn X₁ T.meC) (fun h2 e2 k2 => ?_)
  have X₂ : K.In h2 := X₁.keeps k2
  have I₂ : InstAt h2 x (excO C t0) C none := ⟨k2 _ _ hx₁, rfl, rfl, trivial⟩
  have tsup := T.supC
  unfold ks_superIn at tsup
  rw [hcl] at tsup
  have hVE : Looks (model prog w) h2 (isInstance (.ref x) (.type "ValueError")) true := I₂.type.andThen (looks_subIn X₂ T.veC)
  refine kxs_getMethod kxs_ValueError e2 (looks_opaque X₂ T.opq) (l₀ := .ref C :: bm) (fun A Q E s k q => wpAny_bind ((looks_clsIn X₂ hcl) A _ E s k (wpAny_pure q))) rfl X₂ tsup hVE ne (by decide) ?_
  have hmw : (h2.push (kxs_mw "ValueError.__init__" x)).get? h2.objs.size = some (kxs_mw "ValueError.__init__" x) := Heap.get?_push_at rfl rfl
  have k3 : ∀ b o, h2.get? b = some o → (h2.push (kxs_mw "ValueError.__init__" x)).get? b = some o := fun b o e => Heap.get?_push_of_some _ e
  refine kxs_callWith (i := "ValueError.__init__") (x := x) (by rfl) (evalArgs_plain (spliced_cons (wpAny_Constant_str (k := j) (pos := q 3) (spliced_nil ⟨hmw, ?_⟩))))
  refine call_mw ((X₂.keeps k3) _ _ hC) (k3 _ _ I₂.at_) hmw (show [Value.str msg _].length ≤ sizeLine by rw [sizeLine_eq]; exact (by decide : 1 ≤ 16777216)) (fun h4 t4 k4 hx4 => ?_)
  have xL : x ≠ hp.objs.size := Nat.ne_of_lt (Heap.lt_size hx)
  have old4 : ∀ b o, b ≠ x → h₁.get? b = some o → h4.get? b = some o := fun b o hb e => k4 b o hb (k3 _ _ (k2 _ _ e))
  have X₄ : K.In h4 := fun a o e => old4 a o (fun z => by rw [z, hnx] at e; cases e) (X₁ _ _ e)
  have hs := hn.lt
  have nsL : h4.Ns hp.objs.size (fun y => [(("self" : Str), Value.ref x), (("word" : Str), v1), (("at" : Str), v2)].reverse.lookup y) := by
    obtain ⟨oL, es, ep, hL, r⟩ := hn
    exact ⟨oL, es, ep, old4 _ _ (Ne.symm xL) hL, r⟩
  show _root_.PySem.wpAt _ _ _ _ _ _ _
  refine ks_wpAt_execs_cons (ks_wpAt_Assign_Attr (_root_.PySem.wpAt_of_wpAny ?_))
  refine ESX.ldL (v := v1) nsL (by rfl) (ESX.ldL (v := .ref x) nsL (by rfl) ?_)
  refine set_plain X₄ (ox := excO C t4) (od := none) ⟨hx4, rfl, rfl, trivial⟩ T.sa ?_
  refine exc_osa X₄ hx4 hcl (show refsVE (.ref C :: bm) = true from hbm) rfl T.noW (fun h5 t5 dx k5' dn dne hx5 hn5 => ?_)
  have old5 : ∀ b o, b ≠ x → h₁.get? b = some o → h5.get? b = some o := fun b o hb e => k5' b o hb (old4 b o hb e)
  have X₅ : K.In h5 := fun a o e => old5 a o (fun z => by rw [z, hnx] at e; cases e) (X₁ _ _ e)
  have nsL5 : h5.Ns hp.objs.size (fun y => [(("self" : Str), Value.ref x), (("word" : Str), v1), (("at" : Str), v2)].reverse.lookup y) := by
    obtain ⟨oL, es, ep, hL, r⟩ := nsL
    exact ⟨oL, es, ep, k5' _ _ (Ne.symm xL) hL, r⟩
  have s14 : hp.objs.size ≤ dx := Nat.le_trans (Nat.le_of_lt nsL.lt) dn
  show _root_.PySem.wpAt _ _ _ _ _ _ _
  refine ks_wpAt_execs_cons (ks_wpAt_Assign_Attr (_root_.PySem.wpAt_of_wpAny ?_))
  refine ESX.ldL (v := v2) nsL5 (by rfl) (ESX.ldL (v := .ref x) nsL5 (by rfl) ?_)
  obtain ⟨oD, esD, epD, hoD, hdD, _⟩ := hn5.count (ns := ["word"]) (fun y hy => by
    by_cases z : y = "word"
    · simp [z]
    · simp [z] at hy)
  refine set_plain X₅ (ox := { cls := .ref C, dict := some dx, data := .fields _ }) (od := some oD) ⟨hx5, rfl, rfl, hoD⟩ T.sa ?_
  refine PySem.OEX.osa_old X₅ hx5 hn5 (nl := ["word"]) (fun y hy => by
    by_cases z : y = "word"
    · simp [z]
    · simp [z] at hy) (by decide) hcl (show refsVE (.ref C :: bm) = true from hbm) rfl T.noA (fun h6 t6 k6 hn6 => ?_)
  show _root_.PySem.wpAt _ _ _ (execs [] _) _ _ _
  refine _root_.PySem.wpAt_of_wpAny (wpAny_execs_nil ?_)
  exact hq h6 _ dx _ (fun b o hb e => k6 b o (fun z => by have := Heap.lt_size e; rw [z] at this; exact absurd s14 (Nat.not_le_of_lt this)) (old5 b o hb (k b o e))) s14 dne (k6 x _ (Ne.symm dne) hx5) hn6
/-- a made one -/
structure Made (h h' : Heap) (e C d : Addr) (v1 v2 : Value) : Prop where
  keep : ∀ b o, h.get? b = some o → h'.get? b = some o
  new : h.objs.size ≤ e
  obj : ∃ oe vs, h'.get? e = some oe ∧ oe.cls = .ref C ∧ oe.dict = some d ∧ oe.data = .fields vs ∧ vs[1]? = some .none
  dbig : h.objs.size ≤ d
  dne : d ≠ e
  ns : h'.Ns1 d (fun y => if y = "at" then some v2 else if y = "word" then some v1 else none)
theorem made (T : Txt prog K C fI nm) {v1 v2 : Value} {mg mb : Str → Option Value} (X : K.In s.heap) (hlim : s.heap.NoLimit) (hG : s.heap.Ns mainGlobals mg) (hgs : mg "super" = none) (hB : s.heap.Ns builtinsNs mb) (hbs : mb "super" = some (.type "super")) (hroom : A.depth + 1 < recursionLimit)
    (hq : ∀ h' tk e d, Made s.heap h' e C d v1 v2 → R (.ok (.ret (.ref e))) { s with heap := h', toks := tk }) :
    codeAny (model prog w) A (.call (.ref C) ⟨[v1, v2], []⟩) R s := by
  obtain ⟨nm', qn, N, bs, bm, sn, sub, ab, col, dd, k0, k1, k2, k3, k5, hC, hbm⟩ := T.cls
  obtain ⟨hp, g, dr, tk, os⟩ := s
  have k : ∀ b o, hp.get? b = some o → ((hp.push (kdv_tup [v1, v2])).push (excO C hp.objs.size)).get? b = some o := fun b o e => Heap.get?_push_of_some _ (Heap.get?_push_of_some _ e)
  have hget : ((hp.push (kdv_tup [v1, v2])).push (excO C hp.objs.size)).get? (hp.objs.size + 1) = some (excO C hp.objs.size) := by heap_get
  have hnx : K.lookup (hp.objs.size + 1) = none := by
    cases e : K.lookup (hp.objs.size + 1) with
    | none => rfl
    | some o =>
      have z : hp.get? (hp.objs.size + 1) = some o := X _ _ e
      exact absurd (Nat.lt_of_succ_lt (Heap.lt_size z)) (Nat.lt_irrefl _)
  refine call_own F.excBase_ValueError (fun X => refsVE_contains X bm hbm) (X _ _ hC) (looks_findIn X T.iC) (fun self => bind_fn X self T.tC) (show [v1, v2].length ≤ sizeLine by rw [sizeLine_eq]; exact (by decide : 2 ≤ 16777216)) ?_
  refine init_run (s := ⟨(hp.push (kdv_tup [v1, v2])).push (excO C hp.objs.size), g, dr, tk, os⟩) T (X.keeps k) (hlim.keeps k) (hG.keeps k) hgs (hB.keeps k) hbs hget hnx ?_ fun h' tk' dx t1 k' dn dne hx hns => ?_
  · show A.depth + 1 < recursionLimit
    exact hroom
  · have old : ∀ b o, hp.get? b = some o → h'.get? b = some o := fun b o e => k' b o (Nat.ne_of_lt (Nat.lt_succ_of_lt (Heap.lt_size e))) (k b o e)
    have z : hp.objs.size + 1 + 1 ≤ dx := by
      first
        | (simpa only [Heap.size_push] using dn)
        | exact dn
        | (have q := dn; rw [Heap.size_push, Heap.size_push] at q; exact q)
    exact ⟨rfl, hq h' tk' (hp.objs.size + 1) dx ⟨old, Nat.le_succ _, ⟨_, _, hx, rfl, rfl, rfl, rfl⟩, Nat.le_trans (Nat.le_trans (Nat.le_succ _) (Nat.le_succ _)) z, dne, hns⟩⟩
end
end XSup
end PySem

/-! ### a caught own error that has its dict: isinstance -/
namespace PySem
namespace XSup
open PySem.W PySem.Calls PyProof.Rows PySem.HandSPX
section
variable {prog : Program} {w : World} {A : Around} {E : Value → Shared → Prop} {s : Shared} {K : Frag} {x D : Addr} {ox : Obj} {od : Option Obj}
/-- __class__ comes of the class, whatever the instance's dict says -/
theorem cls_found (c : L2.ExcC K D) : findObj K D od "__class__" = some (.bind (.builtin "getset_descriptor.__get__") (.builtin "object.__class__")) := by
  obtain ⟨cd, hc, _⟩ := any_some c.hd
  unfold findObj
  rw [hc, Option.bind_some, c.ha, Option.bind_some]
  simp [c.hn, c.ht]
theorem cls_asked {Q : Option Value → Shared → Prop} (c : L2.ExcC K D) (X : K.In s.heap) (I : InstAt s.heap x ox D od) (q : Q (some (.ref D)) { s with toks := s.toks + 1 }) : wpAny (model prog w) A (getAttr? (.ref x) "__class__") Q E s := by
  have hf := cls_found (od := od) c
  obtain ⟨hp, g, dr, tk, os⟩ := s
  have lt := I.type (M := model prog w)
  have lg := looks_findIn (M := model prog w) X c.hg
  have ln := looks_findIn (M := model prog w) X c.hk
  have lf := looks_find (M := model prog w) X I hf
  have own : (onTheHeap (Value.ref D) && Value.builtin "BaseException.__getattribute__" == Value.builtin "object.__getattribute__") = false := by
    rw [(by decide +kernel : (Value.builtin "BaseException.__getattribute__" == Value.builtin "object.__getattribute__") = false), Bool.and_false]
  unfold getAttr? getAttrBy? getAttrBy
  refine wpAny_bind (wpAny_mkText (wpAny_bind (wpAny_attempt (wpAny_holding (wpAny_bind (lt.at (wpAny_bind (lg.at ?_))))))))
  show wpAny _ _ (if (onTheHeap (Value.ref D) && Value.builtin "BaseException.__getattribute__" == Value.builtin "object.__getattribute__") = true then _ else _) _ _ _
  rw [own, if_neg Bool.false_ne_true]
  unfold getAttrByItsOwn hookBefore
  refine wpAny_bind ?_
  rw [if_pos (by rfl : onTheHeap (Value.ref D) = true)]
  refine ln.at (wpAny_bind (wpAny_attempt (wpAny_holding ?_)))
  unfold callGetattribute
  rw [(by rfl : (false && onTheHeap (Value.builtin "BaseException.__getattribute__")) = false), if_neg Bool.false_ne_true]
  unfold boundAndCalled
  rw [PySem.F.excAttr_ValueError.ga.bind (.ref x)]
  refine wpAny_bind (wpAny_pure (?_ : wpAny _ _ (call (.builtin "BaseException.__getattribute__") [.ref x, .str "__class__" tk]) _ _ _))
  have isB : Looks (model prog w) hp (isInstance (.ref x) (.type "BaseException")) true := lt.andThen (looks_subIn X c.hs)
  refine wpAny_call (codeAny_call_builtin PySem.F.excAttr_ValueError.ga.plain PySem.F.entry_bexc_ga (@check_slot (model prog w) _ _ ⟨hp, g, dr, tk + 1, os⟩ "BaseException.__getattribute__" "BaseException" "__getattribute__" (.ref x) [.str "__class__" tk] [] _ (by decide +kernel) (by decide +kernel) isB (PySem.F.args_bexc_ga (.ref x) (.str "__class__" tk)) ?_))
  unfold Builtin.«object.__getattribute__»
  refine wpAny_bind (wpAny_of_eq (a := ((Value.ref x : Value), [Value.str "__class__" tk])) (by first | rfl | (simp only [slotArgs]; rfl)) (wpAny_bind (wpAny_pure (wpAny_bind (lt.at (wpAny_bind (lf.at ?_)))))))
  show wpAny _ _ (holding [Value.builtin "object.__class__"] (call (.builtin "getset_descriptor.__get__") [.builtin "object.__class__", .ref x, .ref D]) >>= ret) _ _ _
  refine wpAny_bind (wpAny_holding (wpAny_call (class_get (s := ⟨hp, g, dr, tk + 1, os⟩) (ox := ox) (od := od) X I c.hm ?_)))
  refine wpAny_pure (?_ : wpAny _ _ (handedOut (.ref D)) _ _ _)
  rw [handedOut_of (v := .ref D) rfl]
  first
    | exact wpAny_pure (wpAny_pure q)
    | exact wpAny_pure q
    | exact wpAny_pure (wpAny_bind (wpAny_pure (wpAny_pure q)))
theorem kitx (c : L2.ExcC K D) : KitX K (.ref x) (.ref D) (fun h => ∃ od, InstAt h x ox D od) where
  ty := fun _ _ _ ⟨_, I⟩ => I.type
  it := fun _ _ X _ => by
    obtain ⟨cd, hc, _⟩ := any_some c.hd
    unfold clsIn at hc
    split at hc
    · rename_i ho
      intro A' Q' E' s' k q
      unfold isType loadHead
      exact wpAny_bind (wpAny_loadPart (k _ _ (X _ _ ho)) (wpAny_pure q))
    · cases hc
  ne := fun h tp dd its n sl X htp => by
    obtain ⟨cd, hc, _⟩ := any_some c.hd
    refine Bool.eq_false_iff.mpr fun q => ?_
    have e : D = tp := Value.ref.inj (beq_iff_eq.mp q)
    subst e
    unfold clsIn at hc
    split at hc
    · rename_i ho
      cases (X _ _ ho).symm.trans htp
    · cases hc
  ca := fun X ⟨_, I⟩ k => cls_asked c X I k
end
end XSup
end PySem
namespace L2
open PySem PySem.Spec PyProof.Rows
/-- isinstance(e, c), e the error that the suite holds, its dict at d -/
theorem call_isX {X : Cx} {a D d : Addr} {oe : Obj} {pn : List (Addr × Obj)} (c : ExcC X.K D) (hz : Zc (.ref D) (some d) oe) (hf : ∃ vs, oe.data = .fields vs) : CallR (X.suite a ((a, oe) :: pn)) (.builtin "isinstance") (fun xs H Q => rIsE X.K D a xs H Q ∧ ∃ fs, H d = some (.xd fs)) := by
  intro pins s σ H xs us Q I r h
  obtain ⟨⟨cv, u0, b, rfl, hcv, e, q⟩, fs, ed⟩ := h
  cases r with
  | cons rx rr =>
    cases rr with
    | cons rt rr =>
      cases rr
      cases rx
      cases hcv _ rt
      obtain ⟨hget, _⟩ := I.pin (a, oe) (List.mem_append.mpr (.inl List.mem_cons_self))
      have hx : ObjOk X.prog X.w H s.heap d (.xd fs) := I.hok d _ ed
      obtain ⟨mA, hns, _⟩ := hx
      obtain ⟨od, ho, _⟩ := lookIn_ns hns
      obtain ⟨vs, hv⟩ := hf
      have J : PySem.W.InstAt s.heap a oe D (some od) := ⟨hget, hz.1, by unfold PySem.W.notCls; rw [hv] <;> rfl, by rw [hz.2]; exact ho⟩
      exact PySem.W.kia_one (PySem.XSup.kitx c) I.kIn ⟨_, J⟩ e (fun z => nomatch z) fun tk => ⟨.bl b, H, I.kept (t' := tk) fun _ _ z => z, rfl, q⟩
end L2

namespace L2
open PySem PySem.Spec PyProof.Rows
/-- the two fields -/
abbrev fx2 (v1 v2 : V) : List (Str × V) := [(("at" : Str), v2), (("word" : Str), v1)]
theorem relO_two {v1 v2 : V} {u1 u2 : Value} (r1 : RelV v1 u1) (r2 : RelV v2 u2) (f : Str) : RelO (List.lookup f (fx2 v1 v2)) (if f = "at" then some u2 else if f = "word" then some u1 else none) := by
  by_cases h1 : f = "at"
  · subst h1
    have q : List.lookup ("at" : Str) (fx2 v1 v2) = some v2 := by simp [List.lookup]
    rw [q]; exact r2
  · have e1 : (f == ("at" : Str)) = false := by simpa using h1
    rw [if_neg h1]
    by_cases h2 : f = "word"
    · subst h2
      have q : List.lookup ("word" : Str) (fx2 v1 v2) = some v1 := by simp [List.lookup, e1]
      rw [q]; exact r1
    · have e2 : (f == ("word" : Str)) = false := by simpa using h2
      rw [if_neg h2]
      have q : List.lookup f (fx2 v1 v2) = none := by simp [List.lookup, e1, e2]
      rw [q]; trivial
section
variable {X : Cx} {C fI : Addr} {nm : Str}
/-- C(e1, e2) -/
def tMk2 (C : Addr) (ta : TA) : St → Hp → XK → Prop := fun σ H Q => ta σ H fun vs H1 => ∃ v1 v2, vs = [v1, v2] ∧ ∀ d, H1 d = none → Q (.ref C) (some d) (upd H1 d (.xd (fx2 v1 v2)))
theorem pmk2 {a1 a2 : Expr} {ta : TA} {p pos : Pos} {k : Nat} (T : PySem.XSup.Txt X.prog X.K C fI nm) (gC : X.mg nm = some (.ref C)) (gS : X.mg "super" = none) (hr : Room (k + 1) X.A) (ha : PA X [a1, a2] ta) (hg : Gl X nm) (hdb : (nm == ("__debug__" : Str)) = false)
    (he : starEach (a1 :: [a2]) X.env = (false, eval a1 X.env) :: starEach [a2] X.env := by rfl) (hpl : (backTo pos (starEach [a2] X.env)).any (·.1) = false := by rfl) :
    PMk X (.Call (.Name nm p) [a1, a2] [] pos) (tMk2 C ta) := by
  intro pins s σ H Q I h
  refine wpAny_Call_Name_kw (ld_glob I hg gC ?_ hdb)
  refine PySem.W.callWith_K (h₀ := X.base) I.ok.mod.kin T.kC (thn (ha.run pos pins s σ H _ I h) fun us s1 hh => ?_) he hpl
  obtain ⟨vs, H1, I1, r1, v1, v2, ev, q1⟩ := hh
  subst ev
  refine ⟨I1.kIn, ?_⟩
  obtain ⟨mb, hB, hb⟩ := I1.ok.mod.blt
  cases r1 with
  | cons rv1 rn =>
    rename_i u1 us'
    cases rn with
    | cons rv2 rn =>
      rename_i u2 us''
      cases rn
      show wpAny _ _ (call (.ref C) [u1, u2]) _ _ _
      have hlim := I1.nolimit
      have kb := I1.bk
      obtain ⟨hp, g, dr, tk, os⟩ := s1
      have hbs : mb "super" = some (.type "super") := (hb "super" (by decide)).trans (by first | rfl | kernel_rfl | decide +kernel)
      refine wpAny_call (PySem.XSup.made T I1.kIn hlim (I1.ok.mod.glob.keeps kb) gS (hB.keeps kb) hbs (by have := hr.dp; omega) fun h' tk' e d M => ?_)
      show MkP X pins σ Q (.ref e) ⟨h', g, dr, tk', os⟩
      obtain ⟨oe, fv, hoe, hc, hd, hdat, h1⟩ := M.obj
      have hns := M.ns
      obtain ⟨G', g1, g2⟩ := restrict h' fun b => decide (b ≠ e)
      have gk : ∀ b, b ≠ e → G'.get? b = h'.get? b := fun b hb => g1 b (decide_eq_true hb)
      have ge : G'.get? e = none := g2 e (by simp)
      have old : ∀ b o, hp.get? b = some o → G'.get? b = some o := fun b o q => (gk b (Nat.ne_of_lt (Nat.lt_of_lt_of_le (Heap.lt_size q) M.new))).trans (M.keep b o q)
      have ob : ObjOk X.prog X.w (upd H1 d (.xd (fx2 v1 v2))) G' d (.xd (fx2 v1 v2)) := ⟨_, hns.at (fun o q => (gk d M.dne).trans q), fun f => relO_two rv1 rv2 f⟩
      have J : Inv X pins σ (upd H1 d (.xd (fx2 v1 v2))) ⟨G', g, dr, tk', os⟩ := I1.laid (t' := tk') old M.dbig ob
      refine ⟨e, oe, fv, ⟨G', g, dr, tk', os⟩, _, .ref C, some d, rfl, J, fun b o q => ?_, ge, hoe, ⟨hc, hd⟩, hdat, h1, ?_, rfl, I1.bare, raises_own T.exC T.tyC, q1 d (I1.hok.fresh M.dbig)⟩
      · by_cases hb : b = e
        · have q' : G'.get? b = some o := q
          rw [hb, ge] at q'; cases q'
        · exact (gk b hb).symm.trans q
      · rw [upd_ne (Ne.symm M.dne)]
        exact I1.hok.fresh M.new
/-- raise C(e1, e2) -/
def tRaise2 (C : Addr) (W : WX) (ta : TA) : TS := fun _ σ H => tMk2 C ta σ H fun cls d H' => W cls d σ H'
end
end L2

namespace Pl
open PySem L2
section
variable {X : Cx} {W : WX} {C fI : Addr} {nm : Str} {a1 a2 e : Expr} {t : TA} {ut : UA} {p pos pos2 : Pos} {k : Nat}
/-- raise C(e1, e2) -/
def uRaise (C : Addr) (ut : UA) : US := fun k s => ut (vw false s) (fun rs => match rs with | [.d x1, .d x2] => k.ex ⟨C, [(("at" : Str), x2), (("word" : Str), x1)]⟩ s | _ => False) (fun x => k.ex x s)
theorem snd_raise {K : Fr} (h : SndA K W t ut) : SndS K W (tRaise2 C W t) (uRaise C ut) := fun R F0 H0 F H σ s k D rs c q => by
  refine h R F H σ _ _ _ _ rs.hid rs.g.ok q (fun vs us F' H' g ra pp => ?_) fun cls d x F' H' g rep pp => c.ex F' H' σ s cls d x (rs.grow g) rep pp
  obtain ⟨x1, x2, rfl, kx⟩ : ∃ x1 x2, us = [.d x1, .d x2] ∧ k.ex ⟨C, [(("at" : Str), x2), (("word" : Str), x1)]⟩ s := by
    split at pp
    · exact ⟨_, _, rfl, pp⟩
    · exact pp.elim
  match vs, ra with
  | [v1, v2], ra =>
    obtain ⟨r1, r2, _⟩ := ra
    have d1 : Dp K F' v1 x1 := r1
    have d2 : Dp K F' v2 x2 := r2
    refine ⟨v1, v2, rfl, fun d hd => ?_⟩
    have hF : F' d = none := by
      cases z : F' d with
      | none => rfl
      | some o => rw [g.ok.sub d o z] at hd; cases hd
    have na : ¬ R.a = some d := fun z => by
      obtain ⟨xs, _, _, z1, _⟩ := g.ok.inv d z
      rw [hd] at z1; cases z1
    have g2 : Gr K R F' H' F' (upd H' d (.xd (fx2 v1 v2))) := g.ok.lay hd
    have sF : Sub F' (upd F' d (.xd (fx2 v1 v2))) := Sub.new hF
    have g3 : Gr K R F H (upd F' d (.xd (fx2 v1 v2))) (upd H' d (.xd (fx2 v1 v2))) := by
      have gg := g.trans g2
      refine ⟨gg.ex.trans sF, gg.keep, fun b o z => ?_, gg.ok.freeze upd_same hF na⟩
      by_cases hb : b = d
      · rw [hb]; exact .inr (by
          cases zz : H d with
          | none => rfl
          | some o => rw [g.keep d o na zz] at hd; cases hd)
      · rw [upd_ne hb] at z; exact g.new b o z
    refine c.ex _ _ σ s _ _ _ (rs.grow g3) ⟨rfl, d, _, rfl, upd_same, fun f y hy => ?_⟩ kx
    by_cases h1 : f = ("at" : Str)
    · subst h1
      have e1 : y = x2 := by simpa [List.lookup] using hy.symm
      exact ⟨v2, by simp [List.lookup], e1 ▸ L2.Dp.subH d2 sF⟩
    · have q1 : (f == ("at" : Str)) = false := by simpa using h1
      by_cases h2 : f = ("word" : Str)
      · subst h2
        have e1 : y = x1 := by simpa [List.lookup, q1] using hy.symm
        exact ⟨v1, by simp [List.lookup, q1], e1 ▸ L2.Dp.subH d1 sF⟩
      · have q2 : (f == ("word" : Str)) = false := by simpa using h2
        simp [List.lookup, q1, q2] at hy
theorem ds_raise (hc : X.calm = true) (T : PySem.XSup.Txt X.prog X.K C fI nm) (gC : X.mg nm = some (.ref C)) (gS : X.mg "super" = none) (hr : Room (k + 1) X.A) (tk : Takes X W) (ha : DA X W [a1, a2] t ut) (hg : Gl X nm) (hdb : (nm == ("__debug__" : Str)) = false := by decide)
    (he : starEach (a1 :: [a2]) X.env = (false, eval a1 X.env) :: starEach [a2] X.env := by rfl) (hpl : (backTo pos (starEach [a2] X.env)).any (·.1) = false := by rfl) :
    DS X W (.Raise (some (.Call (.Name nm p) [a1, a2] [] pos)) none pos2) (tRaise2 C W t) (uRaise C ut) :=
  ⟨ps_raise hc tk (pmk2 T gC gS hr ha.pa hg hdb he hpl), snd_raise ha.snd⟩
end

/-! ### in an except suite -/
section
variable {X : Cx} {W : WX} {C dd a : Addr} {oe : Obj} {pn : List (Addr × Obj)} {i : Nat} {x nm : Str} {p p2 pos : Pos}
theorem _root_.Pl.RepS.put_exc {K : Fr} {R : Rg} {F0 H0 F H : Hp} {σ : St} {s : Sl} {v : V} {a dd : Addr} {fs : List (Str × D)} {i : Nat} (h : RepS K R F0 H0 F H σ s) (d : RepE K F v a dd fs) : RepS K R F0 H0 F H (σ.set i (some v)) (s.set i (some (.exc a dd fs))) := by
  obtain ⟨A, h1, h2⟩ := h.sl
  have hl := h.len
  refine ⟨h.g, h.live, by rw [List.length_set, List.length_set]; exact hl, A, fun j r e => ?_, fun j j' l m e e' => ?_⟩
  · rcases get_set e with ⟨rfl, e1, hi⟩ | ⟨n, e1⟩
    · cases e1
      exact ⟨v, List.getElem?_set_self (by omega), d⟩
    · obtain ⟨w, q1, q2⟩ := h1 j r e1
      exact ⟨w, by rw [List.getElem?_set_ne (Ne.symm n)]; exact q1, q2⟩
  · rcases get_set e with ⟨_, e1, _⟩ | ⟨_, e1⟩
    · cases e1
    · rcases get_set e' with ⟨_, e2, _⟩ | ⟨_, e2⟩
      · cases e2
      · exact h2 j j' l m e1 e2
/-- isinstance(e, c) -/
def uIsX (i : Nat) (a dd : Addr) (b : Bool) : UE := fun s P _ => ∃ fs, s[i]? = some (some (.exc a dd fs)) ∧ P (.d (.bool b))
def tIsX (K : Fr) (D a dd : Addr) (i : Nat) (c : V) : TE := tCB (fun xs H Q => rIsE K D a xs H Q ∧ ∃ fs, H dd = some (.xd fs)) (tCons (tVar i) (tCons (tC c) tNil))
theorem snd_isX {K : Fr} {D a dd : Addr} {i : Nat} {c : V} {cv : Value} {b : Bool} (hcv : ∀ u, RelV c u → u = cv) (hk : PySem.W.kitOne K (.ref D) cv = some b) : SndE K W (tIsX K D a dd i c) (uIsX i a dd b) := by
  intro R F H σ s P PX Q rd ok h cc o
  obtain ⟨fs, h1, h2⟩ := h
  obtain ⟨v, h3, h4⟩ := rd.get i _ h1
  obtain ⟨rfl, gs, h5, _⟩ := (h4 : RepE K F v a dd fs)
  exact ⟨_, h3, ⟨c, cv, b, rfl, hcv, hk, cc _ (.d (.bool b)) F H ok.refl (.bl b) h2⟩, gs, ok.sub _ _ h5⟩
theorem de_isX {D : Addr} {C' : Addr} {b : Bool} (c : ExcC X.K D) (hz : Zc (.ref D) (some dd) oe) (hf : ∃ vs, oe.data = .fields vs) (hN : X.N[i]? = some x) (hv : Vis X.env.scope x) (hg : Gl X "isinstance") (hm : X.mg "isinstance" = none) (hgn : Gl X nm) (hmn : X.mg nm = some (.ref C')) (hk : PySem.W.kitOne X.K (.ref D) (.ref C') = some b)
    (hd : (x == ("__debug__" : Str)) = false := by decide) (hcd : (x == ("__classdict__" : Str)) = false := by decide) (hdn : (nm == ("__debug__" : Str)) = false := by decide) (hb : bootBuiltins "isinstance" = some (.builtin "isinstance") := by first | rfl | kernel_rfl | decide +kernel)
    (he : starEach (Expr.Name x p :: [.Name nm p2]) X.env = (false, eval (.Name x p) X.env) :: starEach [.Name nm p2] X.env := by rfl) (he2 : starEach (.Name nm p2 :: []) X.env = (false, eval (.Name nm p2) X.env) :: starEach [] X.env := by rfl) (hpl : (backTo pos (starEach [.Name nm p2] X.env)).any (·.1) = false := by rfl) {p3 : Pos} :
    DE (X.suite a ((a, oe) :: pn)) W (.Call (.Name "isinstance" p3) [.Name x p, .Name nm p2] [] pos) (tIsX X.K D a dd i (.ref C')) (uIsX i a dd b) :=
  ⟨pe_callB (X := X.suite a ((a, oe) :: pn)) (call_isX c hz hf) hg hm hb (pa_cons (pe_var hN hv hd hcd) (pa_cons (pe_glob hgn hmn rfl hdn) pa_nil he2) he) (by decide) (by decide) he hpl, snd_isX (fun _ h => h) hk⟩
theorem de_isXb {D : Addr} {b : Bool} {T : String} (c : ExcC X.K D) (hz : Zc (.ref D) (some dd) oe) (hf : ∃ vs, oe.data = .fields vs) (hN : X.N[i]? = some x) (hv : Vis X.env.scope x) (hg : Gl X "isinstance") (hm : X.mg "isinstance" = none) (hgn : Gl X nm) (hmn : X.mg nm = none) (hbn : bootBuiltins nm = some (.type T)) (hk : PySem.W.kitOne X.K (.ref D) (.type T) = some b)
    (hd : (x == ("__debug__" : Str)) = false := by decide) (hcd : (x == ("__classdict__" : Str)) = false := by decide) (hdn : (nm == ("__debug__" : Str)) = false := by decide) (hnn : nm ≠ "__name__" := by decide) (hb : bootBuiltins "isinstance" = some (.builtin "isinstance") := by first | rfl | kernel_rfl | decide +kernel)
    (he : starEach (Expr.Name x p :: [.Name nm p2]) X.env = (false, eval (.Name x p) X.env) :: starEach [.Name nm p2] X.env := by rfl) (he2 : starEach (.Name nm p2 :: []) X.env = (false, eval (.Name nm p2) X.env) :: starEach [] X.env := by rfl) (hpl : (backTo pos (starEach [.Name nm p2] X.env)).any (·.1) = false := by rfl) {p3 : Pos} :
    DE (X.suite a ((a, oe) :: pn)) W (.Call (.Name "isinstance" p3) [.Name x p, .Name nm p2] [] pos) (tIsX X.K D a dd i (.ty T)) (uIsX i a dd b) :=
  ⟨pe_callB (X := X.suite a ((a, oe) :: pn)) (call_isX c hz hf) hg hm hb (pa_cons (pe_var hN hv hd hcd) (pa_cons (pe_bltn hgn hmn hbn rfl hnn hdn) pa_nil he2) he) (by decide) (by decide) he hpl, snd_isX (fun _ h => h) hk⟩
/-- e.f -/
def uXf (i : Nat) (a dd : Addr) (f : Str) : UE := fun s P _ => ∃ fs y, s[i]? = some (some (.exc a dd fs)) ∧ fs.lookup f = some y ∧ P (.d y)
theorem de_xf {D : Addr} {f : Str} (T : XfC X.K D) (hno : PySem.W.findIn X.K (.ref D) f = some none) (hz : Zc (.ref D) (some dd) oe) (hf : ∃ vs, oe.data = .fields vs) (hN : X.N[i]? = some x) (hv : Vis X.env.scope x) (hd : (x == ("__debug__" : Str)) = false := by decide) (hcd : (x == ("__classdict__" : Str)) = false := by decide)
    (hb : attributeBase (.Name x p) f X.env (eval (.Name x p) X.env) = eval (.Name x p) X.env := by rfl) :
    DE (X.suite a ((a, oe) :: pn)) W (.Attribute (.Name x p) f pos) (tXf a (.ref D) (some dd) D f (tVar i)) (uXf i a dd f) := by
  refine ⟨pe_xf T hno hz hf (pe_var hN hv hd hcd) hb, fun R F H σ s P PX Q rd ok h cc o => ?_⟩
  obtain ⟨fs, y, h1, h2, h6⟩ := h
  obtain ⟨v, h3, h4⟩ := rd.get i _ h1
  obtain ⟨rfl, gs, h5, h7⟩ := (h4 : RepE X.K F v a dd fs)
  obtain ⟨w, h8, h9⟩ := h7 f y h2
  exact ⟨_, h3, rfl, rfl, dd, gs, w, rfl, ok.sub _ _ h5, h8, cc _ (.d y) F H ok.refl h9 h6⟩
end

/-! ### try .. except C as e -/
section
variable {X : Cx} {x n : Str} {c : Value} {i : Nat} {body suite : List Stmt} {b₀ : Stmt} {np pos pos' : Pos} {tb : WX → TS} {ts : Addr → Addr → Addr → TS} {us : Addr → Addr → Addr → US} {Wout : WX} {ub : US}
def tSu (cs : Addr → Prop) (ts : Addr → Addr → Addr → TS) : Addr → Value → Option Addr → TS := fun a cls d D σ H => ∃ C dd, cls = .ref C ∧ d = some dd ∧ cs C ∧ ts C a dd D σ H
/-- cs: the classes whose errors are read in the suite -/
def kTry (K : Fr) (c : Value) (i : Nat) (cs : Addr → Prop) (us : Addr → Addr → Addr → US) (k : KS) : KS := { k with ex := fun x s' => ∃ b, PySem.W.exmOne K (.ref x.C) c = some b ∧
  (b = true → cs x.C ∧ ∀ a dd, us x.C a dd { nx := fun s2 => k.nx (s2.set i none), rt := k.rt, bk := fun s2 => k.bk (s2.set i none), ct := fun s2 => k.ct (s2.set i none), ex := fun _ _ => False } (s'.set i (some (.exc a dd x.fs)))) ∧ (b = false → k.ex x s') }
def uTry (K : Fr) (c : Value) (i : Nat) (cs : Addr → Prop) (ub : US) (us : Addr → Addr → Addr → US) : US := fun k => ub (kTry K c i cs us k)
def kSu (k : KS) (i : Nat) : KS := { nx := fun s2 => k.nx (s2.set i none), rt := k.rt, bk := fun s2 => k.bk (s2.set i none), ct := fun s2 => k.ct (s2.set i none), ex := fun _ _ => False }
theorem ds_try (cs : Addr → Prop) (hs : X.stack = X.env :: X.outer) (hf : X.env.frame = some X.env.locals) (hex : X.ex = []) (hN : X.N.Nodup) (hi : X.N[i]? = some n) (hln : X.env.kindOf n = some .local) (hc : Names X x c) (tk : Takes X Wout)
    (hb : ∀ (W : WX) (pn : List (Addr × Obj)) (xe : Value → Shared → Prop), Takes (X.tr pn xe) W → PassesOwn (model X.prog X.w) X.A X.env xe → DSs (X.tr pn xe) W body (tb W) ub)
    (hsu : ∀ (C a dd : Addr) (oe : Obj) (pn : List (Addr × Obj)), cs C → Zc (.ref C) (some dd) oe → (∃ vs, oe.data = .fields vs) → DSs (X.suite a ((a, oe) :: pn)) W0 (b₀ :: suite) (ts C a dd) (us C a dd)) :
    DS X Wout (.Try body [.ExceptHandler (some (.Name x np)) (some n) (b₀ :: suite) pos'] [] [] pos) (fun D σ H => tb (wAs X.K c i (tSu cs ts) Wout D) D σ H) (uTry X.K c i cs ub us) := by
  refine ⟨ps_try_as hs hf hN hi hln hc tk (fun W pn xe t po => (hb W pn xe t po).ps) (fun a oe cls d pn hz hfl => ⟨fun pins s σ H D I h => ?_⟩), fun R F0 H0 F H σ s k D rs cn q => ?_⟩
  · obtain ⟨C, dd, rfl, rfl, hcs, h'⟩ := h
    exact (hsu C a dd oe pn hcs hz hfl).ps.run pins s σ H D I h'
  · -- an instance of the body's rule
    have inst : ∀ W, SndS X.K W (tb W) ub := fun W => by
      let xe0 : Value → Shared → Prop := fun e s' => wpAny (model X.prog X.w) X.A (leaving X.env e) (fun _ s'' => L2.CX X.prog X.w X.outer X.H_0 X.s_0 (fun _ _ _ => True) e s'') (fun _ _ => True) s'
      have t1 : Takes (X.tr X.pn xe0) (fun _ _ _ _ => True) := takes_of (X := X.tr X.pn xe0) (E := fun _ _ _ => True) hs hf hex rfl
      exact (hb W X.pn xe0 (t1.imp fun _ _ _ _ _ => trivial) (passes_of (X := X.tr X.pn xe0) rfl)).snd
    refine inst _ R F0 H0 F H σ s (kTry X.K c i cs us k) D rs ⟨cn.nx, cn.rt, cn.bk, cn.ct, fun F1 H1 σ1 s1 cls d x1 rs1 rx hk => ?_⟩ q
    obtain ⟨b, hb1, ht, hfl⟩ := hk
    obtain ⟨rfl, dd, gs, rfl, hF, hl⟩ := rx
    refine ⟨b, hb1, fun z a ha => ?_, fun z => cn.ex F1 H1 σ1 s1 _ _ x1 rs1 ⟨rfl, dd, gs, rfl, hF, hl⟩ (hfl z)⟩
    obtain ⟨hcs, hu⟩ := ht z
    refine ⟨x1.C, dd, rfl, rfl, hcs, ?_⟩
    have sn := (hsu x1.C a dd { cls := .ref x1.C, dict := some dd, data := .fields #[] } [] hcs ⟨rfl, rfl⟩ ⟨_, rfl⟩).snd
    refine sn R F0 H0 F1 H1 _ _ (kSu k i) _ (rs1.put_exc (i := i) (v := .ref a) (a := a) (dd := dd) (fs := x1.fs) ⟨rfl, gs, hF, hl⟩) ⟨fun F2 H2 σ2 s2 r2 p2 => cn.nx F2 H2 _ _ r2.put_none p2, fun F2 H2 σ2 s2 v r r2 rr p2 => cn.rt F2 H2 σ2 s2 v r r2 rr p2, fun F2 H2 σ2 s2 r2 p2 => cn.bk F2 H2 _ _ r2.put_none p2, fun F2 H2 σ2 s2 r2 p2 => cn.ct F2 H2 _ _ r2.put_none p2, fun _ _ _ _ _ _ _ _ _ z => z.elim⟩ (hu a dd)
end
end Pl

namespace Pl
open PySem L2
/-! ### a def that works on the cell of draws: the cell opened -/
structure CS (K : Fr) (a : Addr) (G0 H0 G H : Hp) (σ : St) (s : Sl) : Prop where
  keep : ∀ b o, b ≠ a → H0 b = some o → H b = some o
  ex : Sub G0 G
  sub : Sub G H
  ga : G a = none
  new : ∀ b o, G b = some o → G0 b = some o ∨ H0 b = none
  len : σ.length = s.length
  cell : ∃ xs l, H a = some (.lst xs) ∧ DpAll K G xs l ∧ s[0]? = some (some (.d (.list l))) ∧ σ[0]? = some (some (.ref a))
  oth : ∀ i r, i ≠ 0 → s[i]? = some (some r) → ∃ x v, r = .d x ∧ σ[i]? = some (some v) ∧ Dp K G v x
section
variable {K : Fr} {a : Addr} {G0 H0 G H : Hp} {σ : St} {s : Sl} {W : WX}
theorem CS.view (c : CS K a G0 H0 G H σ s) : ∃ F1, RepD K Rg.no F1 σ s ∧ Ok K Rg.no F1 H ∧ ∀ F2 H2, Gr K Rg.no F1 H F2 H2 → ∃ G2, CS K a G0 H0 G2 H2 σ s ∧ Sub G G2 ∧ (∀ b, (∀ l, F2 b ≠ some (.lst l)) → ∀ o, F2 b = some o → G2 b = some o) := by
  obtain ⟨xs, l, c1, c2, c3, c4⟩ := c.cell
  have s1 : Sub G (upd G a (.lst xs)) := Sub.new c.ga
  refine ⟨upd G a (.lst xs), ⟨c.len, fun i r e => ?_⟩, ⟨fun b o e => ?_, fun b z => (by cases z), fun b z => (by cases z), fun b z => z.elim⟩, fun F2 H2 g => ?_⟩
  · by_cases hi : i = 0
    · subst hi
      rw [c3] at e; cases e
      exact ⟨_, c4, .lst (.inl (.inl upd_same)) (c2.subH s1)⟩
    · obtain ⟨x, v, rfl, h1, h2⟩ := c.oth i r hi e
      exact ⟨v, h1, Dp.subH h2 s1⟩
  · by_cases hb : b = a
    · subst hb; rw [upd_same] at e; cases e; exact c1
    · rw [upd_ne hb] at e; exact c.sub b o e
  · have fa : F2 a = some (.lst xs) := g.ex a _ upd_same
    have gg : ∀ b o, b ≠ a → F2 b = some o → (if b = a then none else F2 b) = some o := fun b o n e => by rw [if_neg n]; exact e
    have sG : Sub G (fun b => if b = a then none else F2 b) := fun b o e => by
      have n : b ≠ a := fun z => by rw [z, c.ga] at e; cases e
      exact gg b o n (g.ex b o (by rw [upd_ne n]; exact e))
    have kp : ∀ b o, b ≠ a → H0 b = some o → H2 b = some o := fun b o n e => g.keep b o (fun z => by cases z) (c.keep b o n e)
    refine ⟨fun b => if b = a then none else F2 b, ⟨kp, c.ex.trans sG, fun b o e => ?_, if_pos rfl, fun b o e => ?_, c.len, ⟨xs, l, g.ok.sub a _ fa, c2.subH sG, c3, c4⟩, fun i r hi e => ?_⟩, sG, fun b n o e => ?_⟩
    · split at e
      · cases e
      · exact g.ok.sub b o e
    · split at e
      · cases e
      · next n =>
        rcases g.new b o e with z | z
        · rw [upd_ne n] at z; exact c.new b o z
        · refine .inr ?_
          cases e2 : H0 b with
          | none => rfl
          | some u => rw [c.keep b u n e2] at z; cases z
    · obtain ⟨x, v, h0, h1, h2⟩ := c.oth i r hi e
      exact ⟨x, v, h0, h1, Dp.subH h2 sG⟩
    · exact gg b o (fun z => n xs (by rw [z]; exact fa)) e
theorem CS.run {t : TE} {u : UE} (c : CS K a G0 H0 G H σ s) (h : SndE K W t u) {P : D → Prop} {Q : VK} (q : u s (fun r => onD r fun x => nol x = true ∧ P x) fun _ => False)
    (go : ∀ v x G' H', CS K a G0 H0 G' H' σ s → Sub G G' → Dp K G' v x → nol x = true → P x → Q v H') : t σ H Q := by
  obtain ⟨F1, rd, ok, back⟩ := c.view
  refine h Rg.no F1 H σ s _ _ Q rd ok q (fun v r F2 H2 g rep p => ?_) fun _ _ _ _ _ _ _ z => z.elim
  obtain ⟨G2, c2, s2, n2⟩ := back F2 H2 g
  cases r with
  | d x => exact go v x G2 H2 c2 s2 (dp_nol n2 x v p.1 rep) p.1 p.2
  | own l => exact absurd p.1 (by show nol (.list l) ≠ true; simp [nol])
  | hold V => exact p.elim
  | exc _ _ _ => exact p.elim
theorem CS.runT {t : TT} {u : UT} (c : CS K a G0 H0 G H σ s) (h : SndT K W t u) {P : Bool → Prop} {Q : Bool → Hp → Prop} (q : u s P fun _ => False)
    (go : ∀ b G' H', CS K a G0 H0 G' H' σ s → P b → Q b H') : t σ H Q := by
  obtain ⟨F1, rd, ok, back⟩ := c.view
  refine h Rg.no F1 H σ s _ _ Q rd ok q (fun b F2 H2 g p => ?_) fun _ _ _ _ _ _ _ z => z.elim
  obtain ⟨G2, c2, _, _⟩ := back F2 H2 g
  exact go b G2 H2 c2 p
theorem CS.put_d {v : V} {x : D} {i : Nat} (c : CS K a G0 H0 G H σ s) (hi : i ≠ 0) (d : Dp K G v x) : CS K a G0 H0 G H (σ.set i (some v)) (s.set i (some (.d x))) := by
  obtain ⟨xs, l, c1, c2, c3, c4⟩ := c.cell
  refine ⟨c.keep, c.ex, c.sub, c.ga, c.new, by rw [List.length_set, List.length_set]; exact c.len, ⟨xs, l, c1, c2, by rw [List.getElem?_set_ne hi]; exact c3, by rw [List.getElem?_set_ne hi]; exact c4⟩, fun j r hj e => ?_⟩
  rcases get_set e with ⟨rfl, e1, hl⟩ | ⟨n, e1⟩
  · cases e1
    exact ⟨x, v, rfl, List.getElem?_set_self (by rw [c.len]; exact hl), d⟩
  · obtain ⟨y, w, h0, h1, h2⟩ := c.oth j r hj e1
    exact ⟨y, w, h0, by rw [List.getElem?_set_ne (Ne.symm n)]; exact h1, h2⟩
theorem CS.put_cell {xs : List V} {l : List D} (c : CS K a G0 H0 G H σ s) (d : DpAll K G xs l) : CS K a G0 H0 G (upd H a (.lst xs)) σ (s.set 0 (some (.d (.list l)))) := by
  obtain ⟨ys, m, c1, c2, c3, c4⟩ := c.cell
  have h0 : 0 < s.length := (List.getElem?_eq_some_iff.mp c3).1
  refine ⟨fun b o n e => by rw [upd_ne n]; exact c.keep b o n e, c.ex, fun b o e => ?_, c.ga, c.new, by rw [List.length_set]; exact c.len, ⟨xs, l, upd_same, d, List.getElem?_set_self h0, c4⟩, fun j r hj e => ?_⟩
  · have n : b ≠ a := fun z => by rw [z, c.ga] at e; cases e
    rw [upd_ne n]; exact c.sub b o e
  · rw [List.getElem?_set_ne (Ne.symm hj)] at e
    exact c.oth j r hj e
end
structure ContC (K : Fr) (a : Addr) (G0 H0 : Hp) (k : KS) (D : Ends) : Prop where
  nx : ∀ G H σ s, CS K a G0 H0 G H σ s → k.nx s → D.nx σ H
  rt : ∀ G H σ s v x, CS K a G0 H0 G H σ s → Dp K G v x → k.rt (.d x) s → D.rt v H
def SndK (K : Fr) (t : TS) (u : US) : Prop := ∀ (a : Addr) (G0 H0 G H : Hp) (σ : St) (s : Sl) (k : KS) (D : Ends), CS K a G0 H0 G H σ s → ContC K a G0 H0 k D → u k s → t D σ H
structure DQ (X : Cx) (st : Stmt) (t : TS) (u : US) : Prop where
  ps : PS X st t
  snd : SndK X.K t u
structure DQs (X : Cx) (st : List Stmt) (t : TS) (u : US) : Prop where
  ps : PSs X st t
  snd : SndK X.K t u
section
variable {X : Cx} {W : WX} {e a b c : Expr} {st : Stmt} {rest body orelse : List Stmt} {ta tb tc te ti : TE} {ua ub uc ue ui : UE} {t t' : TS} {u u' : US} {tt : TT} {ut : UT} {pos p p1 p2 p4 : Pos} {x : Str} {n : Expr}
theorem dqs_nil : DQs X [] tNext uNext := ⟨pss_nil, fun a G0 H0 G H σ s k D c cn q => cn.nx G H σ s c q⟩
theorem dqs_one (h : DQ X st t u) : DQs X [st] t u := ⟨pss_one h.ps, h.snd⟩
theorem dqs_cons (h : DQ X st t u) (h' : DQs X rest t' u') : DQs X (st :: rest) (tSeq t t') (uSeq u u') :=
  ⟨pss_cons h.ps h'.ps, fun a G0 H0 G H σ s k D c cn q => h.snd a G0 H0 G H σ s { k with nx := u' k } _ c ⟨fun G' H' σ' s' c' q' => h'.snd a G0 H0 G' H' σ' s' k D c' cn q', cn.rt⟩ q⟩
def uIfQ (ut : UT) (u u' : US) : US := fun k s => ut s (fun b => if b = true then u k s else u' k s) fun _ => False
theorem dq_if (hc : DT X W c tt ut) (ha : DQs X body t u) (hb : DQs X orelse t' u') : DQ X (.If c body orelse pos) (tIfS tt t t') (uIfQ ut u u') :=
  ⟨ps_if hc.pt ha.ps hb.ps, fun a G0 H0 G H σ s k D cs cn q => cs.runT hc.snd (P := fun b => if b = true then u k s else u' k s) q fun b G' H' c' p => by
    cases b with
    | true => exact ha.snd a G0 H0 G' H' σ s k D c' cn p
    | false => exact hb.snd a G0 H0 G' H' σ s k D c' cn p⟩
def uRetQ (ue : UE) : US := fun k s => ue s (fun r => onD r fun x => nol x = true ∧ k.rt (.d x) s) fun _ => False
theorem dq_ret (h : DE X W e te ue) : DQ X (.Return (some e) pos) (tRet te) (uRetQ ue) :=
  ⟨ps_ret h.pe, fun a G0 H0 G H σ s k D cs cn q => cs.run h.snd (P := fun x => k.rt (.d x) s) q fun v x G' H' c' _ d _ p => cn.rt G' H' σ s v x c' d p⟩
def uSetQ (i : Nat) (ue : UE) : US := fun k s => i ≠ 0 ∧ ue s (fun r => onD r fun x => nol x = true ∧ k.nx (s.set i (some (.d x)))) fun _ => False
theorem dq_set {p' : Pos} (i : Nat) (h : DE X W e te ue) (hN : X.N.Nodup) (hi : X.N[i]? = some x := by rfl) (hx : Loc X.env.scope x := by first | exact .inl rfl | exact .inr rfl) (hs : swapsWith e (some (.Name x p')) pos.line X.env = pure false := by rfl)
    (hf : X.fn x = true ∨ X.env.scope.names.lookup x = some .local := by first | exact .inl rfl | exact .inr rfl) : DQ X (.Assign [.Name x p'] e pos) (tAsg te (gName i)) (uSetQ i ue) :=
  ⟨ps_set hN hi hx h.pe hs hf, fun a G0 H0 G H σ s k D cs cn q => cs.run h.snd (P := fun x => k.nx (s.set i (some (.d x)))) q.2 fun v x G' H' c' _ d _ p => cn.nx G' H' _ _ (c'.put_d q.1 d) p⟩
def ixC (so : Option (Option U)) (n : D) (k : List D → Nat → Prop) : Prop := match so with
  | some (some (.d (.list l))) => match n with
    | .int j => match ixN l.length j with
      | some n => k l n
      | none => False
    | _ => False
  | _ => False
/-- x[n] = e, x the cell -/
def uPutQ (ui ue : UE) : US := fun k s => ue s (fun r => onD r fun x => nol x = true ∧ ui s (fun r2 => onD r2 fun n => nol n = true ∧ ixC s[0]? n fun l n => k.nx (s.set 0 (some (.d (.list (l.set n x)))))) fun _ => False) fun _ => False
theorem dq_put (hn : DE X W n ti ui) (h : DE X W e te ue) (hN : X.N[0]? = some x := by rfl) (hv : Vis X.env.scope x := by first | exact .inl rfl | exact .inr (.inl rfl) | exact .inr (.inr rfl))
    (hd : (x == ("__debug__" : Str)) = false := by decide) (hcd : (x == ("__classdict__" : Str)) = false := by decide)
    (hs : swapsWithSole [.Subscript (.Name x p1) n p2] e p4.line X.env = pure false := by rfl) (hw : swappedStores [.Subscript (.Name x p1) n p2] e X.env = pure none := by rfl)
    (h1 : (assignEach [.Subscript (.Name x p1) n p2] X.env).map (·.2) = [assign (.Subscript (.Name x p1) n p2) X.env] := by rfl)
    (ha : ∀ v, assign (.Subscript (.Name x p1) n p2) X.env v = (do
      let ov ← holding [v] (eval (.Name x p1) X.env)
      let iv ← holding [v, ov] (eval n X.env)
      standAt p2
      holding [v, ov, iv] (setItem ov iv v)
      release [v, ov, iv] []) := by intro _; rfl) :
    DQ X (.Assign [.Subscript (.Name x p1) n p2] e p4) (tAsg te (gSub (tVar 0) ti rSetL)) (uPutQ ui ue) := by
  refine ⟨ps_asg h.pe (pg_sub (pe_var hN hv hd hcd) hn.pe set_list ha) hs hw h1, fun a G0 H0 G H σ s k D cs cn q => ?_⟩
  unfold uPutQ at q
  refine cs.run h.snd (P := fun x => ui s (fun r2 => onD r2 fun n => nol n = true ∧ ixC s[0]? n fun l n => k.nx (s.set 0 (some (.d (.list (l.set n x)))))) fun _ => False) q fun v y G1 H1 c1 s1 dy _ p1 => ?_
  obtain ⟨xs, l, e1, e2, e3, e4⟩ := c1.cell
  refine ⟨_, e4, ?_⟩
  refine c1.run hn.snd (P := fun n => ixC s[0]? n fun l n => k.nx (s.set 0 (some (.d (.list (l.set n y)))))) p1 fun w z G2 H2 c2 s2 dz _ p2 => ?_
  obtain ⟨xs2, l2, f1, f2, f3, f4⟩ := c2.cell
  rw [e3] at f3
  cases f3
  rw [e3] at p2
  cases dz with
  | int j =>
    unfold ixC at p2
    dsimp only at p2
    split at p2
    · next jn hj => exact ⟨a, xs2, j, jn, rfl, rfl, f1, by rw [f2.lengthH]; exact hj, cn.nx G2 _ _ _ (c2.put_cell (f2.setH (dy.subH s2))) p2⟩
    · exact p2.elim
  | _ => exact p2.elim
end
/-- data that is no object -/
def atm : D → Bool
  | .none => true
  | .bool _ => true
  | .int _ => true
  | .str _ => true
  | _ => false
theorem atm_dp {K : Fr} {F F' : Hp} {v : V} {x : D} (h : atm x = true) (d : Dp K F v x) : Dp K F' v x := by
  cases d with
  | non => exact .non
  | bl b => exact .bl b
  | int i => exact .int i
  | str y => exact .str y
  | lst => cases h
  | tup => cases h
def hole (V : List D → Prop) (s : Sl) : Prop := ∃ l, s[0]? = some (some (.d (.list l))) ∧ V l
def kQ (V : List D → Prop) (P : U → Prop) : KS := ⟨fun s => hole V s ∧ P (.d .none), fun r s => hole V s ∧ P r, fun _ => False, fun _ => False, fun _ _ => False⟩
def joinH (F G : Hp) : Hp := fun b => match F b with
  | some o => some o
  | none => G b
section
variable {P : Program} {w : World} {K : Fr} {mg : Str → Option Value} {base : Heap}
theorem CS.shut {R : Rg} {a : Addr} {F G0 G H H' : Hp} {σ : St} {s : Sl} (ok : Ok K R F H) (ha : R.a = some a) (gF : Sub G0 F) (nb : ∀ c, R.bad c → G0 c = none) (c : CS K a G0 H G H' σ s) (hv : hole R.HV s) : Gr K R F H (joinH F G) H' ∧ Sub G (joinH F G) := by
  obtain ⟨xs, l, c1, c2, c3, c4⟩ := c.cell
  obtain ⟨l2, v1, v2⟩ := hv
  rw [c3] at v1; cases v1
  have fa := ok.dis a ha
  have fH : Sub F H' := fun b o e => c.keep b o (fun z => by rw [z, fa] at e; cases e) (ok.sub b o e)
  have sF : Sub F (joinH F G) := fun b o e => by unfold joinH; rw [e]
  have sG : Sub G (joinH F G) := fun b o e => by
    unfold joinH
    cases z : F b with
    | none => exact e
    | some u => have := fH b u z; rw [c.sub b o e] at this; cases this; rfl
  have jn : ∀ b o, joinH F G b = some o → F b = some o ∨ G b = some o := fun b o e => by
    unfold joinH at e
    cases z : F b with
    | none => rw [z] at e; exact .inr e
    | some u => rw [z] at e; exact .inl e
  refine ⟨⟨sF, fun b o n e => c.keep b o (fun z => n (by rw [z]; exact ha)) e, fun b o e => ?_, ⟨fun b o e => ?_, fun b hb => ?_, fun b hb => ?_, fun b hb => ?_⟩⟩, sG⟩
  · rcases jn b o e with z | z
    · exact .inl z
    · rcases c.new b o z with y | y
      · exact .inl (gF b o y)
      · exact .inr y
  · rcases jn b o e with z | z
    · exact fH b o z
    · exact c.sub b o z
  · have e : b = a := by rw [ha] at hb; exact (Option.some.inj hb).symm
    subst e
    unfold joinH
    rw [fa]; exact c.ga
  · have e : b = a := by rw [ha] at hb; exact (Option.some.inj hb).symm
    subst e
    refine ⟨xs, _, G, c1, sG, fun q hq => ?_, c2, v2⟩
    cases z : G q with
    | none => rfl
    | some u =>
      rcases c.new q u z with y | y
      · rw [nb q hq] at y; cases y
      · exact absurd y (ok.alive q hq)
  · by_cases n : b = a
    · rw [n, c1]; simp
    · intro z
      cases y : H b with
      | none => exact ok.alive b hb y
      | some u => rw [c.keep b u n y] at z; cases z
theorem fnH {x qual : Str} {st : Stmt} {f : Addr} {fd : FuncData} {N ps : List Str} {k : Nat} {fn : Fn} (F : Fun K x qual st f fd) (S : FnScope N ps (defScope st)) (hN : ps.length ≤ N.length)
    (hbody : ∀ (cdv : Value) (A : Around) (outer : List Env) (s : Shared) (H : Hp) (E : XK), Room k (A.deeper (PyProof.Rows.envOfC qual (defScope st) s.heap.objs.size f cdv)) →
      ∃ t u, DQs (cxOf (L2.CX P w) P w K mg base N qual (defScope st) f cdv A outer s H E) (defBody st) t u ∧ ∀ (as : List U) (P : U → Prop) (PX : Ex → Prop), as.length = ps.length → fn as P PX →
        ∃ (V : List D → Prop) (xs : List D), as = .hold V :: xs.map U.d ∧ (∀ x ∈ xs, atm x = true) ∧ ∀ l, V l → u (kQ V P) (startU N (.d (.list l) :: xs.map U.d))) :
    FnOk P w K mg base (L2.CX P w) (k + 1) f fd ps (SpD K ps.length fn) := by
  refine F.okX S (fun vs H Q E h => h.len) fun cdv A outer s H vs Q E hr hsp => ?_
  obtain ⟨t, u, hd, hp⟩ := hbody cdv A outer s H E hr
  obtain ⟨R, F1, as, PP, PX, ok, ra, hn, hf, hQ, hE⟩ := hsp
  obtain ⟨V, xs, rfl, hat, hu⟩ := hp as PP PX hn hf
  have hl := ra.len
  match vs, ra, hl with
  | v0 :: vs, ra, hl =>
    obtain ⟨⟨a, rfl, ha, rfl⟩, ra2⟩ := ra
    obtain ⟨ys, l, G, g1, g2, g3, g4, g5⟩ := ok.inv a ha
    have ga : G a = none := by
      cases z : G a with
      | none => rfl
      | some o => have := g2 a o z; rw [ok.dis a ha] at this; cases this
    have gl : (U.d (.list l) :: xs.map U.d).length ≤ N.length := by simp at hn ⊢; omega
    have c0 : CS K a G H G H (L2.start N (.ref a :: vs)) (startU N (.d (.list l) :: xs.map U.d)) := by
      refine ⟨fun _ _ _ h => h, Sub.refl, g2.trans ok.sub, ga, fun _ _ h => .inl h, ?_, ⟨ys, l, g1, g4, rfl, rfl⟩, fun i r hi e => ?_⟩
      · rw [start_len _ _ (by rw [hl]; simpa using gl), startU_len _ _ gl]
      · unfold startU at e
        by_cases hb : i < (U.d (.list l) :: xs.map U.d).length
        · rw [List.getElem?_append_left (by rw [List.length_map]; exact hb), List.getElem?_map] at e
          obtain ⟨r', e1, e2⟩ := Option.map_eq_some_iff.mp e
          cases e2
          match i, hi, hb, e1 with
          | j + 1, _, hb, e1 =>
            have e1' : (xs.map U.d)[j]? = some r := by simpa using e1
            obtain ⟨v, z1, z2⟩ := ra2.get e1'
            rw [List.getElem?_map] at e1'
            obtain ⟨x, x1, rfl⟩ := Option.map_eq_some_iff.mp e1'
            refine ⟨x, v, rfl, ?_, atm_dp (hat x (List.mem_of_getElem? x1)) z2⟩
            unfold L2.start
            rw [List.getElem?_append_left (by simp at hl hb ⊢; omega), List.getElem?_map]
            simp [z1]
        · rw [List.getElem?_append_right (by rw [List.length_map]; omega), List.getElem?_replicate] at e
          split at e
          · cases e
          · cases e
    refine ⟨t, hd.ps, hd.snd a G H G H _ _ (kQ R.HV PP) _ c0 ⟨fun G' H' σ' s' c q => ?_, fun G' H' σ' s' v x c d q => ?_⟩ (hu l g5)⟩
    · obtain ⟨gr, _⟩ := c.shut ok ha g2 g3 q.1
      exact hQ .non (.d .none) _ H' gr .non q.2
    · obtain ⟨gr, sG⟩ := c.shut ok ha g2 g3 q.1
      exact hQ v (.d x) _ H' gr (Dp.subH d sG) q.2
end
end Pl

namespace Pl
open PySem L2
section
variable {X : Cx} {W : WX} {e a b c : Expr} {ta tb tc te : TE} {ua ub uc ue : UE} {pos p p2 pos2 : Pos}
/-! ### a new list times an int -/
def repD (l : List D) (n : Nat) : List D := (List.replicate n l).flatten
def uRep (ua ub : UE) : UE := fun s P PX => ua s (fun r => match r with
  | .own l => ub s (fun r' => onD r' fun y => match y with
    | .int k => -(2 ^ 63) ≤ k ∧ k < 2 ^ 63 ∧ l.length * k.toNat ≤ sizeLine ∧ P (.own (repD l k.toNat))
    | _ => False) PX
  | _ => False) PX
theorem rep_dp {K : Fr} {F : Hp} {xs : List V} {l : List D} (h : DpAll K F xs l) : ∀ n, DpAll K F (List.replicate n xs).flatten (repD l n)
  | 0 => .nil
  | n + 1 => by
    unfold repD
    rw [List.replicate_succ, List.replicate_succ, List.flatten_cons, List.flatten_cons]
    exact h.appendH (rep_dp h n)
theorem de_rep (ha : DE X W a ta ua) (hb : DE X W b tb ub) : DE X W (.BinOp a .Mult b pos) (tOp rRep ta tb) (uRep ua ub) := by
  refine ⟨pe_op op_rep ha.pe hb.pe, fun R F H σ s P PX Q rd ok q c o => ?_⟩
  refine ha.snd R F H σ s _ PX _ rd ok q (fun v r F1 H1 g rep q1 => ?_) o
  cases r with
  | own l =>
    obtain ⟨pp, xs, rfl, h1, h2, h3, h4, h5⟩ := rep
    refine hb.snd.dat (rd.sub g.ex) g.ok q1 (fun w y F2 H2 g2 d2 q2 => ?_) (o.step g)
    cases d2 with
    | int k =>
      obtain ⟨k1, k2, k3, k4⟩ := q2
      have z1 := g2.keep pp _ h5 h1
      refine ⟨pp, k, xs, rfl, rfl, z1, k1, k2, by rw [h2.lengthH]; exact k3, fun p hp => ?_⟩
      obtain ⟨g3, rep3⟩ := g2.ok.own (l := repD l k.toNat) hp (rep_dp (h2.subH g2.ex) _)
      exact c _ _ _ _ ((g.trans g2).trans g3) (rep3.back (g.trans g2)) k4
    | _ => exact q2.elim
  | d x => exact q1.elim
  | hold V => exact q1.elim
  | exc _ _ _ => exact q1.elim
/-! ### tuple(reversed(e)), e a list -/
theorem dps_rev {K : Fr} {F : Hp} : ∀ {vs : List V} {l : List D}, DpAll K F vs l → DpAll K F vs.reverse l.reverse
  | _, _, .nil => .nil
  | _, _, .cons h g => by
    rw [List.reverse_cons, List.reverse_cons]
    exact (dps_rev g).appendH (.cons h .nil)
def uTupRev (ue : UE) : UE := fun s P PX => ue s (fun r => onD r fun x => match x with
  | .list l => P (.d (.tuple l.reverse))
  | _ => False) PX
theorem de_tupRev (h : DE X W e te ue) (hc : X.calm = true) (hg : Gl X "tuple") (hm : X.mg "tuple" = none) (hg2 : Gl X "reversed") (hm2 : X.mg "reversed" = none)
    (hs : starEach [e] X.env = (false, eval e X.env) :: starEach [] X.env := by rfl)
    (hs2 : starEach [.Call (.Name "reversed" p2) [e] [] pos2] X.env = (false, eval (.Call (.Name "reversed" p2) [e] [] pos2) X.env) :: starEach [] X.env := by rfl) :
    DE X W (.Call (.Name "tuple" p) [.Call (.Name "reversed" p2) [e] [] pos2] [] pos) (RT.tTupRev X.K te) (uTupRev ue) := by
  refine ⟨RT.pe_tupRev hc hg hm hg2 hm2 h.pe hs hs2, fun R F H σ s P PX Q rd ok q c o => ?_⟩
  refine h.snd.dat rd ok q (fun v x F1 H1 g d q => ?_) o
  cases d with
  | @lst a xs l hs ha =>
    have sq : SqL X.K H1 a xs := g.ok.sub.l hs
    refine ⟨a, xs, rfl, sq, fun p hp => ?_⟩
    have g2 := g.ok.frz (o := .tup xs.reverse) hp
    exact c _ (.d (.tuple l.reverse)) _ _ (g.trans g2) (.tup (.inl (.inl upd_same)) ((dps_rev ha).subH g2.ex)) q
  | _ => exact q.elim
end
end Pl

namespace Pl
open PySem L2
/-! ### a def that is had: where it stands, its text, what it does -/
structure Has (P : Program) (w : World) (K : Fr) (mg : Str → Option Value) (base : Heap) (k : Nat) (x : Str) (st : Stmt) (ps : List Str) (fn : Fn) (fd : FuncData) : Prop where
  gl : mg x = some (.ref (He.ga K x))
  kp : PySem.W.keepIn K (.ref (He.ga K x)) = true
  fu : Fun K x x st (He.ga K x) fd
  b : Binds K fd ps []
  ok : FnOk P w K mg base (L2.CX P w) k (He.ga K x) fd ps (SpD K ps.length fn)
section
variable {P : Program} {w : World} {K : Fr} {mg : Str → Option Value} {base : Heap} {X : Cx} {W : WX} {k : Nat} {x : Str} {st : Stmt} {ps : List Str} {fn : Fn} {fd : FuncData} {e : Expr} {es : List Expr} {t tk : TA} {ut uk : UA} {p pos : Pos} {kws : List Keyword} {ks : List Str} {π : List Nat}
/-- the module that X runs in -/
structure Md (X : Cx) (P : Program) (w : World) (K : Fr) (mg : Str → Option Value) (base : Heap) : Prop where
  p : X.prog = P
  w : X.w = w
  k : X.K = K
  m : X.mg = mg
  b : X.base = base
theorem de_own (h : Has P w K mg base k x st ps fn fd) (md : Md X P w K mg base) (hr : Room k X.A) (hg : Gl X x) (air : Air X W) (ha : DA X W (e :: es) t ut)
    (hdb : (x == ("__debug__" : Str)) = false := by decide) (he : starEach (e :: es) X.env = (false, eval e X.env) :: starEach es X.env := by rfl) (hpl : (backTo pos (starEach es X.env)).any (·.1) = false := by rfl) :
    DE X W (.Call (.Name x p) (e :: es) [] pos) (tCallS (SpD K ps.length fn) (WE W) t) (uCall ps.length fn ut) := by
  obtain ⟨rfl, rfl, rfl, rfl, rfl⟩ := md
  exact de_call h.ok hr hg h.gl h.kp h.b air ha hdb he hpl
theorem de_ownK0 (h : Has P w K mg base k x st ps fn fd) (md : Md X P w K mg base) (hr : Room k X.A) (hg : Gl X x) (hb : KB K fd ps ks 0 π) (air : Air X W) (hk : DK X W kws tk uk)
    (hall : (backToKw pos (keywordEach kws X.env)).all (·.1.isSome) = true := by rfl) (hks : (backToKw pos (keywordEach kws X.env)).filterMap (·.1) = ks := by rfl) (hdb : (x == ("__debug__" : Str)) = false := by decide)
    (hpl : ((backTo pos (starEach [] X.env)).any (·.1) || (backToKw pos (keywordEach kws X.env)).any (·.1.isNone)) = false := by rfl) :
    DE X W (.Call (.Name x p) [] kws pos) (tCallP (SpD K ps.length fn) π 0 ks.length (WE W) tNil tk) (uCallP ps.length fn π 0 ks.length uNil uk) := by
  obtain ⟨rfl, rfl, rfl, rfl, rfl⟩ := md
  exact de_callK0 h.ok hr hg h.gl h.kp hb air hk hall hks hdb hpl
theorem de_ownK (h : Has P w K mg base k x st ps fn fd) (md : Md X P w K mg base) (hr : Room k X.A) (hg : Gl X x) {m : Nat} (hb : KB K fd ps ks m π) (air : Air X W) (ha : DA X W (e :: es) t ut) (hk : DK X W kws tk uk)
    (hall : (backToKw pos (keywordEach kws X.env)).all (·.1.isSome) = true := by rfl) (hks : (backToKw pos (keywordEach kws X.env)).filterMap (·.1) = ks := by rfl) (hdb : (x == ("__debug__" : Str)) = false := by decide) (he : starEach (e :: es) X.env = (false, eval e X.env) :: starEach es X.env := by rfl)
    (hpl : ((backTo pos (starEach (e :: es) X.env)).any (·.1) || (backToKw pos (keywordEach kws X.env)).any (·.1.isNone)) = false := by rfl) :
    DE X W (.Call (.Name x p) (e :: es) kws pos) (tCallP (SpD K ps.length fn) π m ks.length (WE W) t tk) (uCallP ps.length fn π m ks.length ut uk) := by
  obtain ⟨rfl, rfl, rfl, rfl, rfl⟩ := md
  exact de_callK h.ok hr hg h.gl h.kp hb air ha hk hall hks hdb he hpl
end

/-! ### the law: the cell of draws is made, then held -/
def spLaw (K : Fr) : Sp := fun vs H Q E => ∃ (a : Addr) (ns : List Int), vs = [.ref a] ∧ ns.length ≤ 63 ∧ SqL K H a (ns.map V.int) ∧ ∀ H', Q (.bl true) H'
def kT : KS := ⟨fun _ => False, fun r _ => r = .d (.bool true), fun _ => False, fun _ => False, fun _ _ => False⟩
def noOwn (s : Sl) : Prop := ∀ (i : Nat) (l : List D), s[i]? ≠ some (some (U.own l))
/-- behind the first statement: slot i holds the new cell -/
def kHold (i : Nat) (ur : US) : KS := ⟨fun s => ∃ l V, s[i]? = some (some (.own l)) ∧ V l ∧ noOwn (s.set i (some (.hold V))) ∧ ur kT (s.set i (some (.hold V))), fun _ _ => False, fun _ => False, fun _ => False, fun _ _ => False⟩
def scriptD (ns : List Int) : D := .list (ns.map .int)
theorem dps_ints {K : Fr} {F : Hp} : ∀ (ns : List Int), DpAll K F (ns.map V.int) (ns.map .int)
  | [] => .nil
  | n :: ns => .cons (.int n) (dps_ints ns)
theorem SndS.hold {K : Fr} {W : WX} {t0 tr : TS} {u0 ur : US} {i : Nat} (h0 : SndS K W t0 u0) (hr : SndS K W tr ur) {F H : Hp} {σ : St} {s : Sl} {D : Ends} (rs : RepS K Rg.no F H F H σ s) (q : u0 (kHold i ur) s) (hD : ∀ H', D.rt (.bl true) H') : tSeq t0 tr D σ H := by
  refine h0 Rg.no F H F H σ s (kHold i ur) _ rs ⟨fun F1 H1 σ1 s1 r1 q1 => ?_, fun _ _ _ _ _ _ _ _ z => z.elim, fun _ _ _ _ _ z => z.elim, fun _ _ _ _ _ z => z.elim, fun _ _ _ _ _ _ _ _ _ z => z.elim⟩ q
  obtain ⟨l, V, e1, v1, no, q2⟩ := q1
  obtain ⟨A, z1, z2⟩ := r1.sl
  obtain ⟨v, y1, rfl, y3, y4, xs, y5, y6⟩ := z1 i _ e1
  have len := r1.len
  have ok1 := r1.g.ok
  have ok2 : Ok K ⟨some (A i), V, fun _ => False⟩ F1 H1 := ⟨ok1.sub, fun b hb => by cases hb; exact y4, fun b hb => by cases hb; exact ⟨xs, l, F1, y5, Sub.refl, fun _ z => z.elim, y6, v1⟩, fun _ z => z.elim⟩
  have r2 : RepS K ⟨some (A i), V, fun _ => False⟩ F1 H1 F1 H1 σ1 (s1.set i (some (.hold V))) := by
    refine ⟨ok2.refl, fun b hb => by cases hb; rw [y5]; simp, by rw [List.length_set]; exact len, fun _ => 0, fun j r e => ?_, fun j j' l m e _ _ => absurd e (no j l)⟩
    rcases get_set e with ⟨rfl, e3, _⟩ | ⟨n, e3⟩
    · cases e3
      exact ⟨_, y1, A j, rfl, rfl, rfl⟩
    · obtain ⟨w, x1, x2⟩ := z1 j r e3
      refine ⟨w, x1, ?_⟩
      cases r with
      | d x => exact x2
      | own l => exact absurd e (no j l)
      | hold V => obtain ⟨_, _, z, _⟩ := x2; cases z
      | exc a dd fs => exact x2
  refine hr _ F1 H1 F1 H1 σ1 _ kT D r2 ⟨fun _ _ _ _ _ z => z.elim, fun F2 H2 σ2 s2 v r _ rep z => ?_, fun _ _ _ _ _ z => z.elim, fun _ _ _ _ _ z => z.elim, fun _ _ _ _ _ _ _ _ _ z => z.elim⟩ q2
  have z' : r = .d (.bool true) := z
  subst z'
  cases (rep : Dp K F2 v (.bool true))
  exact hD H2
section
variable {P : Program} {w : World} {K : Fr} {mg : Str → Option Value} {base : Heap}
theorem fnLaw {x qual : Str} {st : Stmt} {f : Addr} {fd : FuncData} {N ps : List Str} {k i : Nat} {st0 : Stmt} {rest : List Stmt} (F : Fun K x qual st f fd) (S : FnScope N ps (defScope st)) (h1 : ps.length = 1) (hN : 1 ≤ N.length) (hb : defBody st = st0 :: rest)
    (hbody : ∀ (cdv : Value) (A : Around) (outer : List Env) (s : Shared) (H : Hp) (E : XK), Room k (A.deeper (PyProof.Rows.envOfC qual (defScope st) s.heap.objs.size f cdv)) →
      ∃ t0 u0 tr ur, DS (cxOf (L2.CX P w) P w K mg base N qual (defScope st) f cdv A outer s H E) (fun cls d _ H => E cls d H) st0 t0 u0 ∧ DSs (cxOf (L2.CX P w) P w K mg base N qual (defScope st) f cdv A outer s H E) (fun cls d _ H => E cls d H) rest tr ur ∧
        ∀ ns : List Int, ns.length ≤ 63 → u0 (kHold i ur) (startU N [.d (scriptD ns)])) :
    FnOk P w K mg base (L2.CX P w) (k + 1) f fd ps (spLaw K) := by
  refine F.okX S (fun vs H Q E h => ?_) fun cdv A outer s H vs Q E hr hsp => ?_
  · obtain ⟨a, ns, rfl, _⟩ := h
    rw [h1]; rfl
  · obtain ⟨t0, u0, tr, ur, d0, dr, hp⟩ := hbody cdv A outer s H E hr
    obtain ⟨a, ns, rfl, hn, hs, hQ⟩ := hsp
    refine ⟨tSeq t0 tr, by rw [hb]; exact pss_cons d0.ps dr.ps, ?_⟩
    have ok : Ok K Rg.no H H := ⟨Sub.refl, fun b z => (by cases z), fun b z => (by cases z), fun b z => z.elim⟩
    exact d0.snd.hold dr.snd (repS_start (vs := [.ref a]) (as := [.d (scriptD ns)]) ok ⟨.lst hs (dps_ints ns), trivial⟩ hN) (hp ns hn) hQ
end
end Pl

namespace Pl
open PySem L2
theorem bt_len : bootBuiltins "len" = some (.builtin "len") := by first | rfl | kernel_rfl
theorem bt_abs : bootBuiltins "abs" = some (.builtin "abs") := by first | rfl | kernel_rfl
theorem bt_all : bootBuiltins "all" = some (.builtin "all") := by first | rfl | kernel_rfl
theorem bt_any : bootBuiltins "any" = some (.builtin "any") := by first | rfl | kernel_rfl
theorem bt_sum : bootBuiltins "sum" = some (.builtin "sum") := by first | rfl | kernel_rfl
theorem bt_isi : bootBuiltins "isinstance" = some (.builtin "isinstance") := by first | rfl | kernel_rfl
theorem bt_int : bootBuiltins "int" = some (.type "int") := by first | rfl | kernel_rfl
theorem bt_bool : bootBuiltins "bool" = some (.type "bool") := by first | rfl | kernel_rfl
theorem bt_str : bootBuiltins "str" = some (.type "str") := by first | rfl | kernel_rfl
theorem bt_tuple : bootBuiltins "tuple" = some (.type "tuple") := by first | rfl | kernel_rfl
theorem bt_list : bootBuiltins "list" = some (.type "list") := by first | rfl | kernel_rfl
theorem bt_VE : bootBuiltins "ValueError" = some (.type "ValueError") := by first | rfl | kernel_rfl
/-! ### a comparison as a test -/
def onBool (r : U) (k : Bool → Prop) : Prop := match r with
  | .d (.bool b) => k b
  | _ => False
def uTst (u : UE) : UT := fun s P PX => u s (fun r => onBool r P) PX
theorem dt_cmp {X : Cx} {W : WX} {a b : Expr} {pos : Pos} {ta tb : TE} {ua ub : UE} {op : CmpOp} {r : R2} {o : Op2} (h : DO X (compareOp op) r o) (ha : DE X W a ta ua) (hb : DE X W b tb ub) (hm : behindInMarks op b = false := by first | exact nomark _ | rfl) :
    DT X W (.Compare a [op] [b] pos) (tTest (tOp r ta tb)) (uTst (uOp o ua ub)) := by
  refine ⟨pt_cmpR h.op ha.pe hb.pe hm, fun R F H σ s P PX Q rd ok q c o => ?_⟩
  refine snd_op h.snd ha.snd hb.snd R F H σ s _ PX _ rd ok q (fun v r F1 H1 g rep p => ?_) o
  unfold onBool at p
  split at p
  · cases (rep : Dp X.K F1 v (.bool _))
    exact ⟨_, rfl, c _ F1 H1 g p⟩
  · exact p.elim
/-- a comprehension's block, told by a reckoning -/
def blkB (N : List Str) (sc scope : Scope) (own : List (Str × Nat)) : Bool :=
  (match scope.kind with | .function => true | _ => false) && (scope.names.all fun y => decide (scope.names.lookup y.1 = some y.2)) && (own.all fun p => decide (N[p.2]? = some p.1)) &&
  (scope.names.all fun y => decide (y.2 ≠ .free) || decide (sc.names.lookup y.1 = some .cell) || decide (sc.names.lookup y.1 = some .free)) &&
  (scope.names.all fun y => decide (¬ (y.2 = .local ∨ y.2 = .cell)) || decide (y.1 ∈ own.map (·.1)) || decide (y.1 ∉ N))
theorem blk_of {N : List Str} {sc scope : Scope} {own : List (Str × Nat)} (h : blkB N sc scope own = true) : BlkOk N sc scope own := by
  unfold blkB at h
  simp only [Bool.and_eq_true, List.all_eq_true, Bool.or_eq_true, decide_eq_true_eq] at h
  obtain ⟨⟨⟨⟨h1, h2⟩, h3⟩, h4⟩, h5⟩ := h
  refine ⟨?_, h2, h3, fun y hy hf => ?_, fun y hy hl => ?_⟩
  · cases hk : scope.kind <;> simp_all
  · rcases h4 y hy with (z | z) | z
    · exact absurd hf z
    · exact .inl z
    · exact .inr z
  · rcases h5 y hy with (z | z) | z
    · exact absurd hl z
    · exact .inl z
    · exact .inr z
abbrev WD (E : XK) : WX := fun cls d _ H => E cls d H
section
variable {P : Program} {w : World} {K : Fr} {mg : Str → Option Value} {base : Heap} {N : List Str} {qual : Str} {sc : Scope} {f : Addr} {cdv : Value} {A : Around} {outer : List Env} {s : Shared} {H : Hp} {E : XK}
abbrev XD (P : Program) (w : World) (K : Fr) (mg : Str → Option Value) (base : Heap) (N : List Str) (qual : Str) (sc : Scope) (f : Addr) (cdv : Value) (A : Around) (outer : List Env) (s : Shared) (H : Hp) (E : XK) : Cx := cxOf (L2.CX P w) P w K mg base N qual sc f cdv A outer s H E
theorem tkD : Takes (XD P w K mg base N qual sc f cdv A outer s H E) (WD E) := takes_of rfl rfl rfl rfl
theorem airD : Air (XD P w K mg base N qual sc f cdv A outer s H E) (WD E) := fun σ => passAt tkD σ
theorem poD : PassesOwn (model (XD P w K mg base N qual sc f cdv A outer s H E).prog (XD P w K mg base N qual sc f cdv A outer s H E).w) (XD P w K mg base N qual sc f cdv A outer s H E).A (XD P w K mg base N qual sc f cdv A outer s H E).env (XD P w K mg base N qual sc f cdv A outer s H E).xe := passes_of rfl
end
end Pl

/-! the rules again, the written part named apart (for blocks) -/
namespace Pl
open PySem L2
section
variable {X : Cx} {W : WX} {e a b c : Expr} {ta tb tc te : TE} {ua ub uc u : UE} {pos : Pos}
theorem do_addk {KK : Fr} (hKK : X.K = KK := by rfl) : DO X (binaryOp .Add) (rAddG KK) oAdd := by
  subst hKK
  exact do_add 
end
section
variable {X : Cx} {W : WX} {e a b c : Expr} {ta tb tc te : TE} {ua ub uc u : UE} {pos : Pos}
theorem do_eqk {KK : Fr} (hu : X.A.units + 64 < cLine) (hKK : X.K = KK := by rfl) : DO X (compareOp .Eq) (rEqD KK) (oEq false) := by
  subst hKK
  exact do_eq hu
end
section
variable {X : Cx} {W : WX} {e a b c : Expr} {ta tb tc te : TE} {ua ub uc u : UE} {pos : Pos}
theorem do_nek {KK : Fr} (hu : X.A.units + 64 < cLine) (hKK : X.K = KK := by rfl) : DO X (compareOp .NotEq) (rNeD KK) (oEq true) := by
  subst hKK
  exact do_ne hu
end
section
variable {X : Cx} {W : WX} {e a b c : Expr} {ta tb tc te : TE} {ua ub uc u : UE} {pos : Pos}
theorem dt_truk {KK : Fr} (ha : DE X W a ta ua) (he : ∀ whole, isTrue a X.env whole = (do let v ← whole; standAt a.pos; holding [v] (truthy v)) := by intro _; rfl) (hKK : X.K = KK := by rfl) : DT X W a (fun σ H Q => ta σ H fun x H' => ∃ k, TruV KK x H' k ∧ Q k H') (uTru ua) := by
  subst hKK
  exact dt_tru ha he
end
section
variable {X : Cx} {W : WX} {e a b c : Expr} {ta tb tc te : TE} {ua ub uc u : UE} {pos : Pos}
theorem de_andk {KK : Fr} {rest : List Expr} (h : DE X W a ta ua) (h' : DE X W (.BoolOp .And (b :: rest) pos) tb ub) (hKK : X.K = KK := by rfl) : DE X W (.BoolOp .And (a :: b :: rest) pos) (tAndT KK ta tb) (uAndV ua ub) := by
  subst hKK
  exact de_and h h'
end
section
variable {X : Cx} {W : WX} {e a b c : Expr} {ta tb tc te : TE} {ua ub uc u : UE} {pos : Pos}
theorem de_ork {KK : Fr} {rest : List Expr} (h : DE X W a ta ua) (h' : DE X W (.BoolOp .Or (b :: rest) pos) tb ub) (hKK : X.K = KK := by rfl) : DE X W (.BoolOp .Or (a :: b :: rest) pos) (tOrT KK ta tb) (uOrV ua ub) := by
  subst hKK
  exact de_or h h'
end
section
variable {X : Cx} {W : WX} {e a b c : Expr} {ta tb tc te : TE} {ua ub uc u : UE} {pos : Pos}
theorem de_notk {KK : Fr} (h : DE X W a ta ua) (hKK : X.K = KK := by rfl) : DE X W (.UnaryOp .Not a pos) (tNotT KK ta) (uNotV ua) := by
  subst hKK
  exact de_not h
end
section
variable {X : Cx} {W : WX} {e a b c : Expr} {es : List Expr} {ta tb tc te : TE} {ua ub uc u : UE} {t : TA} {ut : UA} {pos p : Pos}
theorem de_ixk {KK : Fr} (ha : DE X W a ta ua) (hb : DE X W b tb ub) (hs : PlainIx b := by intro _ _; rfl) (hKK : X.K = KK := by rfl) : DE X W (.Subscript a b pos) (tOp (rIxS2 KK) ta tb) (uOp oIx ua ub) := by
  subst hKK
  exact de_ix ha hb hs
end
section
variable {X : Cx} {W : WX} {e a b c : Expr} {es : List Expr} {ta tb tc te : TE} {ua ub uc u : UE} {t : TA} {ut : UA} {pos p : Pos}
theorem de_slicek {KK : Fr} {lo hi : Option Expr} {tl th : TO} {ul uh : UO} {p2} (h : DE X W e te u) (hl : DOp X W lo tl ul) (hh : DOp X W hi th uh) (hKK : X.K = KK := by rfl) : DE X W (.Subscript e (.Slice lo hi none p2) pos) (tSl (rSlG KK) te tl th) (uSl u ul uh) := by
  subst hKK
  exact de_slice h hl hh
end
section
variable {X : Cx} {W : WX} {e a b c : Expr} {es : List Expr} {ta tb tc te : TE} {ua ub uc u : UE} {t : TA} {ut : UA} {pos p : Pos}
theorem dc_lenk {KK : Fr} (hKK : X.K = KK := by rfl) : DC X (.builtin "len") (rLenA KK) oLen := by
  subst hKK
  exact dc_len 
end
section
variable {X : Cx} {W : WX} {e a b c : Expr} {es : List Expr} {ta tb tc te : TE} {ua ub uc u : UE} {t : TA} {ut : UA} {pos p : Pos}
theorem dc_listk {KK : Fr} (hKK : X.K = KK := by rfl) : DC X (.type "list") (rListA KK) oList := by
  subst hKK
  exact dc_list 
end
section
variable {X : Cx} {W : WX} {e a b c : Expr} {es : List Expr} {ta tb tc te : TE} {ua ub uc u : UE} {t : TA} {ut : UA} {pos p : Pos}
theorem dc_tuplek {KK : Fr} (hKK : X.K = KK := by rfl) : DC X (.type "tuple") (rTupA KK) oTuple := by
  subst hKK
  exact dc_tuple 
end
section
variable {X : Cx} {W : WX} {e a b c : Expr} {es : List Expr} {ta tb tc te : TE} {ua ub uc u : UE} {t : TA} {ut : UA} {pos p : Pos}
theorem dc_allk {KK : Fr} (hc : X.calm = true) (hKK : X.K = KK := by rfl) : DC X (.builtin "all") (rAll KK) oAll := by
  subst hKK
  exact dc_all hc
end
section
variable {X : Cx} {W : WX} {e a b c : Expr} {es : List Expr} {ta tb tc te : TE} {ua ub uc u : UE} {t : TA} {ut : UA} {pos p : Pos}
theorem dc_anyk {KK : Fr} (hc : X.calm = true) (hKK : X.K = KK := by rfl) : DC X (.builtin "any") (rAny KK) oAny := by
  subst hKK
  exact dc_any hc
end
section
variable {X : Cx} {W : WX} {e a b c : Expr} {es : List Expr} {ta tb tc te : TE} {ua ub uc u : UE} {t : TA} {ut : UA} {pos p : Pos}
theorem dc_sumk {KK : Fr} (hc : X.calm = true) (hKK : X.K = KK := by rfl) : DC X (.builtin "sum") (rSum KK) oSum := by
  subst hKK
  exact dc_sum hc
end
section
variable {X : Cx} {W : WX} {e a b c : Expr} {st : Stmt} {rest body orelse : List Stmt} {ta tb tc te : TE} {ua ub uc ue : UE} {t t' : TS} {u u' : US} {tt : TT} {ut : UT} {pos p : Pos} {x : Str} {p1 p2 p3 p4 : Pos}
theorem ds_appk {KK : Fr} (m : Bool) (i : Nat) (h : DE X W e te ue) (hN : X.N[i]? = some x := by rfl) (hv : Vis X.env.scope x := by first | exact .inl rfl | exact .inr (.inl rfl) | exact .inr (.inr rfl))
    (hd : (x == ("__debug__" : Str)) = false := by decide) (hcd : (x == ("__classdict__" : Str)) = false := by decide)
    (hs : swapsWith (.Call (.Attribute (.Name x p1) "append" p2) [e] [] p3) none p4.line X.env = pure false := by rfl) (he : starEach (e :: []) X.env = (false, eval e X.env) :: starEach [] X.env := by rfl) (hpl : (backTo p3 (starEach [] X.env)).any (·.1) = false := by rfl)
    (hbase : attributeBase (.Name x p1) "append" X.env (eval (.Name x p1) X.env) = eval (.Name x p1) X.env := by rfl)
    (hfew : ((backTo p3 (starEach (e :: []) X.env)).all (fun x => !x.1) && (backToKw p3 (keywordEach [] X.env)).all (fun x => x.1.isSome)
      && decide ((e :: []).length + ([] : List Keyword).length + (if ([] : List Keyword).isEmpty then 0 else 1) < 30)) = true := by rfl)
    (hline : (p2.endLine == p3.line) = true := by rfl) (hKK : X.K = KK := by rfl) :
    DS X W (.Expr (.Call (.Attribute (.Name x p1) "append" p2) [e] [] p3) p4) (tDrop (tBM KK "list" rAppend (tVar i) (tCons te tNil))) (uApp m i ue) := by
  subst hKK
  exact ds_app m i h hN hv hd hcd hs he hpl hbase hfew hline
end
section
variable {X : Cx} {W : WX} {e a b c : Expr} {st : Stmt} {rest body orelse : List Stmt} {ta tb tc te : TE} {ua ub uc ue : UE} {t t' : TS} {u u' : US} {tt : TT} {ut : UT} {pos p : Pos} {x : Str} {p1 p2 p3 p4 : Pos}
theorem ds_insk {KK : Fr} {ti : TE} {ui : UE} {n : Expr} (m : Bool) (i : Nat) (hn : DE X W n ti ui) (h : DE X W e te ue) (hN : X.N[i]? = some x := by rfl) (hv : Vis X.env.scope x := by first | exact .inl rfl | exact .inr (.inl rfl) | exact .inr (.inr rfl))
    (hd : (x == ("__debug__" : Str)) = false := by decide) (hcd : (x == ("__classdict__" : Str)) = false := by decide)
    (hs : swapsWith (.Call (.Attribute (.Name x p1) "insert" p2) [n, e] [] p3) none p4.line X.env = pure false := by rfl) (he : starEach (n :: [e]) X.env = (false, eval n X.env) :: starEach [e] X.env := by rfl) (he2 : starEach (e :: []) X.env = (false, eval e X.env) :: starEach [] X.env := by rfl) (hpl : (backTo p3 (starEach [e] X.env)).any (·.1) = false := by rfl)
    (hbase : attributeBase (.Name x p1) "insert" X.env (eval (.Name x p1) X.env) = eval (.Name x p1) X.env := by rfl)
    (hfew : ((backTo p3 (starEach (n :: [e]) X.env)).all (fun x => !x.1) && (backToKw p3 (keywordEach [] X.env)).all (fun x => x.1.isSome)
      && decide ((n :: [e]).length + ([] : List Keyword).length + (if ([] : List Keyword).isEmpty then 0 else 1) < 30)) = true := by rfl)
    (hline : (p2.endLine == p3.line) = true := by rfl) (hKK : X.K = KK := by rfl) :
    DS X W (.Expr (.Call (.Attribute (.Name x p1) "insert" p2) [n, e] [] p3) p4) (tDrop (tBM KK "list" rInsA (tVar i) (tCons ti (tCons te tNil)))) (uIns m i ui ue) := by
  subst hKK
  exact ds_ins m i hn h hN hv hd hcd hs he he2 hpl hbase hfew hline
end
section
variable {X : Cx} {W : WX} {e a b c : Expr} {st : Stmt} {rest body orelse : List Stmt} {ta tb tc te : TE} {ua ub uc ue : UE} {t t' : TS} {u u' : US} {tt : TT} {ut : UT} {pos p : Pos} {x : Str} {p1 p2 p3 p4 : Pos}
theorem ds_putAk {KK : Fr} {op : Operator} {f : Int → Int → Int} {ti : TE} {ui : UE} {n : Expr} (m : Bool) (i : Nat) (ho : DIp X op f) (hn : DE X W n ti ui) (h : DE X W e te ue) (hN : X.N[i]? = some x := by rfl) (hv : Vis X.env.scope x := by first | exact .inl rfl | exact .inr (.inl rfl) | exact .inr (.inr rfl))
    (hd : (x == ("__debug__" : Str)) = false := by decide) (hcd : (x == ("__classdict__" : Str)) = false := by decide)
    (ha : ∀ ov iv new, augStore n ov iv new = (do holding [new, ov, iv] (setItem ov iv new); release [new, ov, iv] []; pure .next) := by intros; rfl) (hKK : X.K = KK := by rfl) :
    DS X W (.AugAssign (.Subscript (.Name x p1) n p2) op e p4) (tAugS (tVar i) ti te (rIxL KK) (ipI f) rSetL) (uPutA f m i ui ue) := by
  subst hKK
  exact ds_putA m i ho hn h hN hv hd hcd ha
end
section
variable {X : Cx} {W : WX} {tg e a b : Expr} {te ta tb : TE} {ue ua ub : UE} {t : TA} {ut : UA} {pos p : Pos}
theorem di_seqk {KK : Fr} (h : DE X W e te ue) (hKK : X.K = KK := by rfl) : DI X W tg e (iSeq KK te) (uSeqI ue) := by
  subst hKK
  exact di_seq h
end
section
variable {X : Cx} {W : WX} {tg e a b : Expr} {te ta tb : TE} {ue ua ub : UE} {t : TA} {ut : UA} {pos p : Pos}
theorem dg_tup2k {KK : Fr} {x y : Str} {kk : Nat} {px py : Pos} (i j : Nat) (hc : X.calm = true) (hN : X.N.Nodup) (hi : X.N[i]? = some x := by rfl) (hj : X.N[j]? = some y := by rfl) (hx : Loc X.env.scope x := by first | exact .inl rfl | exact .inr rfl) (hy : Loc X.env.scope y := by first | exact .inl rfl | exact .inr rfl)
    (hf : X.fn x = true ∨ X.env.scope.names.lookup x = some .local := by first | exact .inl rfl | exact .inr rfl) (hf2 : X.fn y = true ∨ X.env.scope.names.lookup y = some .local := by first | exact .inl rfl | exact .inr rfl)
    (h1 : (assignEach [.Name x px, .Name y py] X.env).map (·.2) = assign (.Name x px) X.env :: (assignEach [.Name y py] X.env).map (·.2) := by rfl) (h2 : (assignEach [.Name y py] X.env).map (·.2) = assign (.Name y py) X.env :: (assignEach [] X.env).map (·.2) := by rfl)
    (hn : (assignEach [.Name x px, .Name y py] X.env).length = 2 := by rfl) (hst : (assignEach [.Name x px, .Name y py] X.env).findIdx? (·.1) = none := by rfl) (hKK : X.K = KK := by rfl) :
    DG X (.Tuple [.Name x px, .Name y py] kk pos) (gTup KK 2 (gCons (gName i) (gCons (gName j) gNil))) (ugT2 i j) := by
  subst hKK
  exact dg_tup2 i j hc hN hi hj hx hy hf hf2 h1 h2 hn hst
end
section
variable {X : Cx} {W : WX} {e : Expr} {te : TE} {ta : TA} {ue : UE} {p pos tpos : Pos} {elts : List Expr} {kk : Nat}
theorem di_enumk {KK : Fr} (h : DE X W e te ue) (hg : Gl X "enumerate") (hm : X.mg "enumerate" = none) (hs : starEach [e] X.env = [(false, eval e X.env)] := by rfl) (hs2 : starEach (e :: []) X.env = (false, eval e X.env) :: starEach [] X.env := by rfl) (hKK : X.K = KK := by rfl) :
    DI X W (.Tuple elts kk tpos) (.Call (.Name "enumerate" p) [e] [] pos) (iEnumA KK (tCons te tNil)) (uEnum ue) := by
  subst hKK
  exact di_enum h hg hm hs hs2
end
section
variable {X : Cx} {W : WX} {e : Expr} {es : List Expr} {te : TE} {ue : UE} {t : TA} {ut : UA} {pos p p2 p3 : Pos}
theorem de_isk {KK : Fr} {nm : Str} (T : Ty) (h : DE X W e te ue) (hg : Gl X "isinstance") (hm : X.mg "isinstance" = none) (hv : bootBuiltins "isinstance" = some (.builtin "isinstance")) (hg2 : Gl X nm) (hm2 : X.mg nm = none) (hv2 : bootBuiltins nm = some (.type T.s)) (hn2 : nm ≠ "__name__" := by decide) (hd2 : (nm == ("__debug__" : Str)) = false := by decide)
    (he : starEach (e :: [.Name nm p2]) X.env = (false, eval e X.env) :: starEach [.Name nm p2] X.env := by rfl) (he2 : starEach (.Name nm p2 :: []) X.env = (false, eval (.Name nm p2) X.env) :: starEach [] X.env := by rfl) (hpl : (backTo pos (starEach [.Name nm p2] X.env)).any (·.1) = false := by rfl) (hKK : X.K = KK := by rfl) :
    DE X W (.Call (.Name "isinstance" p) [e, .Name nm p2] [] pos) (tCB (rIsi KK) (tCons te (tCons (tC (.ty T.s)) tNil))) (uIs T ue) := by
  subst hKK
  exact de_is T h hg hm hv hg2 hm2 hv2 hn2 hd2 he he2 hpl
end
section
variable {X : Cx} {W : WX} {e : Expr} {es : List Expr} {te : TE} {ue : UE} {t : TA} {ut : UA} {pos p p2 p3 : Pos}
theorem de_is2k {KK : Fr} {nm nm' : Str} {kk : Nat} {p4 : Pos} (T T' : Ty) (h : DE X W e te ue) (hg : Gl X "isinstance") (hm : X.mg "isinstance" = none) (hv : bootBuiltins "isinstance" = some (.builtin "isinstance")) (hg2 : Gl X nm) (hm2 : X.mg nm = none) (hv2 : bootBuiltins nm = some (.type T.s)) (hg3 : Gl X nm') (hm3 : X.mg nm' = none) (hv3 : bootBuiltins nm' = some (.type T'.s))
    (hn2 : nm ≠ "__name__" := by decide) (hd2 : (nm == ("__debug__" : Str)) = false := by decide) (hn3 : nm' ≠ "__name__" := by decide) (hd3 : (nm' == ("__debug__" : Str)) = false := by decide)
    (he : starEach (e :: [.Tuple [.Name nm p2, .Name nm' p3] kk p4]) X.env = (false, eval e X.env) :: starEach [.Tuple [.Name nm p2, .Name nm' p3] kk p4] X.env := by rfl) (he2 : starEach (.Tuple [.Name nm p2, .Name nm' p3] kk p4 :: []) X.env = (false, eval (.Tuple [.Name nm p2, .Name nm' p3] kk p4) X.env) :: starEach [] X.env := by rfl)
    (he3 : starEach (.Name nm p2 :: [.Name nm' p3]) X.env = (false, eval (.Name nm p2) X.env) :: starEach [.Name nm' p3] X.env := by rfl) (he4 : starEach (.Name nm' p3 :: []) X.env = (false, eval (.Name nm' p3) X.env) :: starEach [] X.env := by rfl) (hpl : (backTo pos (starEach [.Tuple [.Name nm p2, .Name nm' p3] kk p4] X.env)).any (·.1) = false := by rfl) (hKK : X.K = KK := by rfl) :
    DE X W (.Call (.Name "isinstance" p) [e, .Tuple [.Name nm p2, .Name nm' p3] kk p4] [] pos) (tCB (rIsiT KK) (tCons te (tCons (tTup (tCons (tC (.ty T.s)) (tCons (tC (.ty T'.s)) tNil))) tNil))) (uIs2 T T' ue) := by
  subst hKK
  exact de_is2 T T' h hg hm hv hg2 hm2 hv2 hg3 hm3 hv3 hn2 hd2 hn3 hd3 he he2 he3 he4 hpl
end
section
variable {X : Cx} {W : WX} {e : Expr} {es : List Expr} {t : TA} {ut : UA} {pos p : Pos} {k n : Nat} {f : Addr} {fd : FuncData} {ps : List Str} {fn : Fn} {x : Str}
theorem de_callk {KK : Fr} (F : FnOk X.prog X.w X.K X.mg X.base (L2.CX X.prog X.w) k f fd ps (SpD X.K n fn)) (hr : Room k X.A) (hg : Gl X x) (hm : X.mg x = some (.ref f)) (hk : PySem.W.keepIn X.K (.ref f) = true) (hb : Binds X.K fd ps []) (air : Air X W) (ha : DA X W (e :: es) t ut)
    (hdb : (x == ("__debug__" : Str)) = false := by decide) (he : starEach (e :: es) X.env = (false, eval e X.env) :: starEach es X.env := by rfl) (hpl : (backTo pos (starEach es X.env)).any (·.1) = false := by rfl) (hKK : X.K = KK := by rfl) :
    DE X W (.Call (.Name x p) (e :: es) [] pos) (tCallS (SpD KK n fn) (WE W) t) (uCall n fn ut) := by
  subst hKK
  exact de_call F hr hg hm hk hb air ha hdb he hpl
end
section
variable {X : Cx} {W : WX} {e : Expr} {es : List Expr} {t : TA} {ut : UA} {pos p : Pos} {k n : Nat} {f : Addr} {fd : FuncData} {ps : List Str} {fn : Fn} {x : Str} {kws : List Keyword} {ks : List Str} {tk : TA} {uk : UA} {π : List Nat} {m : Nat}
theorem de_callK0k {KK : Fr} (F : FnOk X.prog X.w X.K X.mg X.base (L2.CX X.prog X.w) k f fd ps (SpD X.K n fn)) (hr : Room k X.A) (hg : Gl X x) (hm : X.mg x = some (.ref f)) (hkp : PySem.W.keepIn X.K (.ref f) = true) (hb : KB X.K fd ps ks 0 π) (air : Air X W) (hk : DK X W kws tk uk)
    (hall : (backToKw pos (keywordEach kws X.env)).all (·.1.isSome) = true := by rfl) (hks : (backToKw pos (keywordEach kws X.env)).filterMap (·.1) = ks := by rfl) (hdb : (x == ("__debug__" : Str)) = false := by decide)
    (hpl : ((backTo pos (starEach [] X.env)).any (·.1) || (backToKw pos (keywordEach kws X.env)).any (·.1.isNone)) = false := by rfl) (hKK : X.K = KK := by rfl) :
    DE X W (.Call (.Name x p) [] kws pos) (tCallP (SpD KK n fn) π 0 ks.length (WE W) tNil tk) (uCallP n fn π 0 ks.length uNil uk) := by
  subst hKK
  exact de_callK0 F hr hg hm hkp hb air hk hall hks hdb hpl
end
section
variable {X : Cx} {W : WX} {e : Expr} {es : List Expr} {t : TA} {ut : UA} {pos p : Pos} {k n : Nat} {f : Addr} {fd : FuncData} {ps : List Str} {fn : Fn} {x : Str} {kws : List Keyword} {ks : List Str} {tk : TA} {uk : UA} {π : List Nat} {m : Nat}
theorem de_callKk {KK : Fr} (F : FnOk X.prog X.w X.K X.mg X.base (L2.CX X.prog X.w) k f fd ps (SpD X.K n fn)) (hr : Room k X.A) (hg : Gl X x) (hm : X.mg x = some (.ref f)) (hkp : PySem.W.keepIn X.K (.ref f) = true) (hb : KB X.K fd ps ks m π) (air : Air X W) (ha : DA X W (e :: es) t ut) (hk : DK X W kws tk uk)
    (hall : (backToKw pos (keywordEach kws X.env)).all (·.1.isSome) = true := by rfl) (hks : (backToKw pos (keywordEach kws X.env)).filterMap (·.1) = ks := by rfl) (hdb : (x == ("__debug__" : Str)) = false := by decide) (he : starEach (e :: es) X.env = (false, eval e X.env) :: starEach es X.env := by rfl)
    (hpl : ((backTo pos (starEach (e :: es) X.env)).any (·.1) || (backToKw pos (keywordEach kws X.env)).any (·.1.isNone)) = false := by rfl) (hKK : X.K = KK := by rfl) :
    DE X W (.Call (.Name x p) (e :: es) kws pos) (tCallP (SpD KK n fn) π m ks.length (WE W) t tk) (uCallP n fn π m ks.length ut uk) := by
  subst hKK
  exact de_callK F hr hg hm hkp hb air ha hk hall hks hdb he hpl
end
section
variable {X : Cx} {W : WX} {C dd a : Addr} {oe : Obj} {pn : List (Addr × Obj)} {i : Nat} {x nm : Str} {p p2 pos : Pos}
theorem de_isXk {KK : Fr} {D : Addr} {C' : Addr} {b : Bool} (c : ExcC X.K D) (hz : Zc (.ref D) (some dd) oe) (hf : ∃ vs, oe.data = .fields vs) (hN : X.N[i]? = some x) (hv : Vis X.env.scope x) (hg : Gl X "isinstance") (hm : X.mg "isinstance" = none) (hgn : Gl X nm) (hmn : X.mg nm = some (.ref C')) (hk : PySem.W.kitOne X.K (.ref D) (.ref C') = some b)
    (hd : (x == ("__debug__" : Str)) = false := by decide) (hcd : (x == ("__classdict__" : Str)) = false := by decide) (hdn : (nm == ("__debug__" : Str)) = false := by decide) (hb : bootBuiltins "isinstance" = some (.builtin "isinstance") := by first | rfl | kernel_rfl | decide +kernel)
    (he : starEach (Expr.Name x p :: [.Name nm p2]) X.env = (false, eval (.Name x p) X.env) :: starEach [.Name nm p2] X.env := by rfl) (he2 : starEach (.Name nm p2 :: []) X.env = (false, eval (.Name nm p2) X.env) :: starEach [] X.env := by rfl) (hpl : (backTo pos (starEach [.Name nm p2] X.env)).any (·.1) = false := by rfl) {p3 : Pos} (hKK : X.K = KK := by rfl) :
    DE (X.suite a ((a, oe) :: pn)) W (.Call (.Name "isinstance" p3) [.Name x p, .Name nm p2] [] pos) (tIsX KK D a dd i (.ref C')) (uIsX i a dd b) := by
  subst hKK
  exact de_isX c hz hf hN hv hg hm hgn hmn hk hd hcd hdn hb he he2 hpl
end
section
variable {X : Cx} {W : WX} {C dd a : Addr} {oe : Obj} {pn : List (Addr × Obj)} {i : Nat} {x nm : Str} {p p2 pos : Pos}
theorem de_isXbk {KK : Fr} {D : Addr} {b : Bool} {T : String} (c : ExcC X.K D) (hz : Zc (.ref D) (some dd) oe) (hf : ∃ vs, oe.data = .fields vs) (hN : X.N[i]? = some x) (hv : Vis X.env.scope x) (hg : Gl X "isinstance") (hm : X.mg "isinstance" = none) (hgn : Gl X nm) (hmn : X.mg nm = none) (hbn : bootBuiltins nm = some (.type T)) (hk : PySem.W.kitOne X.K (.ref D) (.type T) = some b)
    (hd : (x == ("__debug__" : Str)) = false := by decide) (hcd : (x == ("__classdict__" : Str)) = false := by decide) (hdn : (nm == ("__debug__" : Str)) = false := by decide) (hnn : nm ≠ "__name__" := by decide) (hb : bootBuiltins "isinstance" = some (.builtin "isinstance") := by first | rfl | kernel_rfl | decide +kernel)
    (he : starEach (Expr.Name x p :: [.Name nm p2]) X.env = (false, eval (.Name x p) X.env) :: starEach [.Name nm p2] X.env := by rfl) (he2 : starEach (.Name nm p2 :: []) X.env = (false, eval (.Name nm p2) X.env) :: starEach [] X.env := by rfl) (hpl : (backTo pos (starEach [.Name nm p2] X.env)).any (·.1) = false := by rfl) {p3 : Pos} (hKK : X.K = KK := by rfl) :
    DE (X.suite a ((a, oe) :: pn)) W (.Call (.Name "isinstance" p3) [.Name x p, .Name nm p2] [] pos) (tIsX KK D a dd i (.ty T)) (uIsX i a dd b) := by
  subst hKK
  exact de_isXb c hz hf hN hv hg hm hgn hmn hbn hk hd hcd hdn hnn hb he he2 hpl
end
section
variable {X : Cx} {W : WX} {e a b c : Expr} {ta tb tc te : TE} {ua ub uc ue : UE} {pos p p2 pos2 : Pos}
theorem de_tupRevk {KK : Fr} (h : DE X W e te ue) (hc : X.calm = true) (hg : Gl X "tuple") (hm : X.mg "tuple" = none) (hg2 : Gl X "reversed") (hm2 : X.mg "reversed" = none)
    (hs : starEach [e] X.env = (false, eval e X.env) :: starEach [] X.env := by rfl)
    (hs2 : starEach [.Call (.Name "reversed" p2) [e] [] pos2] X.env = (false, eval (.Call (.Name "reversed" p2) [e] [] pos2) X.env) :: starEach [] X.env := by rfl) (hKK : X.K = KK := by rfl) :
    DE X W (.Call (.Name "tuple" p) [.Call (.Name "reversed" p2) [e] [] pos2] [] pos) (RT.tTupRev KK te) (uTupRev ue) := by
  subst hKK
  exact de_tupRev h hc hg hm hg2 hm2 hs hs2
end
end Pl

namespace Pl
open PySem L2
/-! ### reading the terms, plain -/
theorem i_seq {u u' : US} {k : KS} {s : Sl} (h : ∀ N : Sl → Prop, (∀ s', N s' = u' k s') → u { k with nx := N } s) : uSeq u u' k s := h (u' k) fun _ => rfl
/-- what is left of k behind a cut -/
theorem i_cut {u u' : US} {k : KS} {s : Sl} (M : Sl → Prop) (h1 : ∀ s', M s' → u' k s') (h2 : ∀ N : Sl → Prop, (∀ s', M s' → N s') → u { k with nx := N } s) : uSeq u u' k s := h2 _ h1
theorem lt_line {n : Nat} (h : n ≤ 16777216) : n ≤ sizeLine := by rw [sizeLine_eq]; exact h
theorem lt_line' {n : Nat} (h : n < 16777216) : n < sizeLine := by rw [sizeLine_eq]; exact h
section
variable {l : List D} {ug : UG} {ut : UT} {ue : UE} {vs : List Nat} {s : Sl} {P : U → Prop}
/-- what is left behind the iterable of a comprehension -/
def lcIn (l : List D) (ug : UG) (ut : UT) (ue : UE) (vs : List Nat) (s : Sl) (P : U → Prop) : Prop := l.length ≤ sizeLine ∧ ∃ I : Nat → List D → Prop, I 0 [] ∧
  (∀ (i : Nat) (d : D) (acc : List D), l[i]? = some d → I i acc → ∃ ps, ug d = some ps ∧ (∀ p ∈ ps, p.1 ∈ vs) ∧
    ut (setU (wipeU s vs) ps) (fun b => if b = true then ue (setU (wipeU s vs) ps) (fun r => onD r fun y => I (i + 1) (acc ++ [y])) noX else I (i + 1) acc) noX) ∧ ∀ acc, acc.length ≤ l.length → I l.length acc → P (.own acc)
theorem i_lc {ui : UI} {PX : Ex → Prop} (h : ui s (fun l => lcIn l ug ut ue vs s P) PX) : uLc ui ug ut ue vs s P PX := h
theorem i_for {ui : UI} {ub : US} {k : KS} (h : ui (vw false s) (fun l => ∃ Pv : Nat → Sl → Prop, Pv 0 s ∧ (∀ (i : Nat) (d : D) (s' : Sl), l[i]? = some d → Pv i s' →
  ∃ ps, ug d = some ps ∧ ub { k with nx := Pv (i + 1), ct := Pv (i + 1), bk := k.nx } (setU s' ps)) ∧ ∀ s', Pv l.length s' → k.nx s') (fun x => k.ex x s)) : uFor ui ug ub k s := h
theorem flat_take {g : D → List D} {i : Nat} {d : D} (e : l[i]? = some d) : (l.take (i + 1)).flatMap g = (l.take i).flatMap g ++ g d := by
  have e' : l.take (i + 1) = l.take i ++ [d] := by
    rw [List.take_succ, e]; rfl
  rw [e', List.flatMap_append]
  simp
/-- each item gives g d -/
theorem lc_fun (g : D → List D) (hz : l.length ≤ sizeLine) (step : ∀ (i : Nat) (d : D), l[i]? = some d → ∃ ps, ug d = some ps ∧ (∀ p ∈ ps, p.1 ∈ vs) ∧ ∀ (acc : List D) (J : List D → Prop), J (acc ++ g d) →
    ut (setU (wipeU s vs) ps) (fun b => if b = true then ue (setU (wipeU s vs) ps) (fun r => onD r fun y => J (acc ++ [y])) noX else J acc) noX) (fin : P (.own (l.flatMap g))) : lcIn l ug ut ue vs s P := by
  refine ⟨hz, fun i acc => acc = (l.take i).flatMap g, by simp, fun i d acc e ea => ?_, fun acc _ ea => ?_⟩
  · obtain ⟨ps, h1, h2, h3⟩ := step i d e
    exact ⟨ps, h1, h2, h3 acc (fun acc => acc = (l.take (i + 1)).flatMap g) (by rw [flat_take e, ea])⟩
  · have ea' : acc = (l.take l.length).flatMap g := ea
    rw [List.take_length] at ea'; rw [ea']; exact fin
/-- each item gives one of R -/
theorem lc_rel (R : Nat → D → D → Prop) (hz : l.length ≤ sizeLine) (step : ∀ (i : Nat) (d : D), l[i]? = some d → ∃ ps, ug d = some ps ∧ (∀ p ∈ ps, p.1 ∈ vs) ∧ ∀ (acc : List D) (J : List D → Prop), (∀ y, R i d y → J (acc ++ [y])) →
    ut (setU (wipeU s vs) ps) (fun b => if b = true then ue (setU (wipeU s vs) ps) (fun r => onD r fun y => J (acc ++ [y])) noX else J acc) noX)
    (fin : ∀ acc : List D, acc.length = l.length → (∀ (i : Nat) (d y : D), l[i]? = some d → acc[i]? = some y → R i d y) → P (.own acc)) : lcIn l ug ut ue vs s P := by
  refine ⟨hz, fun i acc => i ≤ l.length → acc.length = i ∧ ∀ (j : Nat) (d y : D), l[j]? = some d → acc[j]? = some y → R j d y, fun _ => ⟨rfl, fun j d y _ z => by simp at z⟩, fun i d acc e ea => ?_, fun acc _ ea => ?_⟩
  · obtain ⟨ps, h1, h2, h3⟩ := step i d e
    have hi : i < l.length := (List.getElem?_eq_some_iff.mp e).1
    obtain ⟨a1, a2⟩ := ea (by omega)
    refine ⟨ps, h1, h2, h3 acc (fun acc => i + 1 ≤ l.length → acc.length = i + 1 ∧ ∀ (j : Nat) (d y : D), l[j]? = some d → acc[j]? = some y → R j d y) fun y hy _ => ⟨by simp [a1], fun j d' y' z1 z2 => ?_⟩⟩
    by_cases hj : j < i
    · rw [List.getElem?_append_left (by omega)] at z2
      exact a2 j d' y' z1 z2
    · have hj2 : j = i := by
        have := (List.getElem?_eq_some_iff.mp z2).1
        simp at this; omega
      subst hj2
      rw [e] at z1; cases z1
      rw [List.getElem?_append_right (by omega), a1] at z2
      simp at z2; subst z2; exact hy
  · obtain ⟨a1, a2⟩ := ea (Nat.le_refl _)
    exact fin acc a1 a2
end
theorem has_false {P : Program} {w : World} {K : Fr} {mg : Str → Option Value} {base : Heap} {k : Nat} {x : Str} {st : Stmt} {N ps : List Str} {fn : Fn} {fd : FuncData} {f : Addr} (F : Fun K x x st f fd) (S : FnScope N ps (defScope st)) (hz : ∀ as P PX, ¬ fn as P PX) :
    FnOk P w K mg base (L2.CX P w) (k + 1) f fd ps (SpD K ps.length fn) :=
  F.okX S (fun vs H Q E h => h.len) fun cdv A outer s H vs Q E hr hsp => by
    obtain ⟨_, _, _, _, _, _, _, _, z, _⟩ := hsp
    exact absurd z (hz _ _ _)
theorem atI_nat {α : Type} {l : List α} {i : Int} {n : Nat} {x : α} (hi : i = (n : Int)) (h : l[n]? = some x) : atI l i = some x := by
  subst hi
  have hn : n < l.length := (List.getElem?_eq_some_iff.mp h).1
  unfold atI ixN
  rw [if_pos (by omega), if_pos (by omega)]
  simpa using h
theorem ixN_nat {n : Nat} {i : Int} {j : Nat} (hi : i = (j : Int)) (h : j < n) : ixN n i = some j := by
  subst hi
  unfold ixN
  rw [if_pos (by omega), if_pos (by omega)]
  simp
theorem sh_int (i : Int) : SeqAt.shaped (.int i) = true := by simp [SeqAt.shaped, PyData.canLay0, PyData.depth]
theorem sh_bool (i : Bool) : SeqAt.shaped (.bool i) = true := by simp [SeqAt.shaped, PyData.canLay0, PyData.depth]
theorem sh_none : SeqAt.shaped .none = true := by simp [SeqAt.shaped, PyData.canLay0, PyData.depth]
theorem sh_str (i : Str) : SeqAt.shaped (.str i) = PyData.strOk i := by simp [SeqAt.shaped, PyData.canLay0, PyData.depth]
theorem ev_int (a b : Int) : PyData.eqv (.int a) (.int b) = (a == b) := rfl
theorem ev_bool (a b : Bool) : PyData.eqv (.bool a) (.bool b) = (a == b) := rfl
theorem ev_str (a b : Str) : PyData.eqv (.str a) (.str b) = (a == b) := rfl
theorem ev_none : PyData.eqv .none .none = true := rfl
theorem ev_ni (b : Int) : PyData.eqv .none (.int b) = false := rfl
theorem ev_in (b : Int) : PyData.eqv (.int b) .none = false := rfl
theorem bits_all {p : D → Bool} (l : List D) : (l.flatMap fun d => [PyData.bool (p d)]) = (l.map p).map PyData.bool := by
  induction l with
  | nil => rfl
  | cons a l ih => simp [ih]
theorem boolsD_map (bs : List Bool) : boolsD (bs.map PyData.bool) = some bs := by
  induction bs with
  | nil => rfl
  | cons b bs ih => show (boolsD (bs.map PyData.bool)).map _ = _; rw [ih]; rfl
theorem boolsD_comp {α : Type} (f : α → Bool) (l : List α) : boolsD (l.map (PyData.bool ∘ f)) = some (l.map f) := by
  rw [← List.map_map]; exact boolsD_map _
theorem intsD_map (bs : List Int) : intsD (bs.map PyData.int) = some bs := by
  induction bs with
  | nil => rfl
  | cons b bs ih => show (intsD (bs.map PyData.int)).map _ = _; rw [ih]; rfl
theorem intsD_comp {α : Type} (f : α → Int) (l : List α) : intsD (l.map (PyData.int ∘ f)) = some (l.map f) := by
  rw [← List.map_map]; exact intsD_map _
theorem isN_none : isN .none = true := rfl
theorem isN_int (i : Int) : isN (.int i) = false := rfl
theorem isN_bool (i : Bool) : isN (.bool i) = false := rfl
theorem isN_str (i : Str) : isN (.str i) = false := rfl
theorem isN_list (i : List D) : isN (.list i) = false := rfl
theorem isN_tup (i : List D) : isN (.tuple i) = false := rfl
theorem enD_range (m : List D) : enD m = (List.range m.length).map fun i => .tuple [.int (i : Nat), m[i]?.getD .none] := by
  refine List.ext_getElem? fun i => ?_
  unfold enD
  rw [List.getElem?_mapIdx, List.getElem?_map]
  by_cases h : i < m.length
  · rw [List.getElem?_range h, List.getElem?_eq_getElem h]
    simp [h]
  · rw [List.getElem?_eq_none (by omega), List.getElem?_eq_none (by simpa using h)]
    rfl
theorem flat_if {α β : Type} (p : α → Bool) (f : α → β) (l : List α) : (l.flatMap fun i => if p i = true then [f i] else []) = (l.filter p).map f := by
  induction l with
  | nil => rfl
  | cons a l ih =>
    rw [List.flatMap_cons, List.filter_cons, ih]
    by_cases h : p a = true
    · simp [h]
    · simp [h]
theorem all_get {p : D → Bool} {l : List D} {i : Nat} (h : l.all p = true) (hi : i < l.length) : p (l[i]?.getD .none) = true := by
  have := List.all_eq_true.mp h (l[i]) (List.getElem_mem hi)
  simpa [hi] using this
theorem flat_one {α β : Type} (f : α → β) (l : List α) : (l.flatMap fun i => [f i]) = l.map f := by
  induction l with
  | nil => rfl
  | cons a l ih => simp [ih]
theorem get_rng {n i : Nat} {r : Nat} (h : (List.range n)[i]? = some r) : r = i ∧ i < n := by
  have h1 := (List.getElem?_eq_some_iff.mp h)
  obtain ⟨h2, h3⟩ := h1
  simp at h2 h3
  exact ⟨h3.symm, h2⟩
theorem get_rngD {lo : Int} {n i : Nat} {d : D} (h : (rngD lo n)[i]? = some d) : d = .int (lo + (i : Nat)) ∧ i < n := by
  unfold rngD at h
  rw [List.getElem?_map] at h
  obtain ⟨r, h1, rfl⟩ := Option.map_eq_some_iff.mp h
  obtain ⟨rfl, h2⟩ := get_rng h1
  exact ⟨rfl, h2⟩
theorem rngD_flat {n : Nat} {β : Type} (g : D → List β) : (rngD 0 n).flatMap g = (List.range n).flatMap fun (i : Nat) => g (.int i) := by
  unfold rngD
  rw [List.flatMap_map]
  congr 1
  funext i
  simp
theorem nols_map {α : Type} (f : α → D) (h : ∀ a, nol (f a) = true) (l : List α) : nols (l.map f) = true := by
  induction l with
  | nil => rfl
  | cons a l ih => show (nol (f a) && nols (l.map f)) = true; rw [h, ih]; rfl
theorem nols_all {l : List D} (h : ∀ x ∈ l, nol x = true) : nols l = true := by
  induction l with
  | nil => rfl
  | cons a l ih => show (nol a && nols l) = true; rw [h a (.head _), ih fun x hx => h x (.tail _ hx)]; rfl
section
variable {α : Type} {a b c d e : α} {l : List α}
theorem at_0 : atI (a :: l) 0 = some a := atI_nat (n := 0) rfl rfl
theorem at_1 : atI (a :: b :: l) 1 = some b := atI_nat (n := 1) rfl rfl
theorem at_2 : atI (a :: b :: c :: l) 2 = some c := atI_nat (n := 2) rfl rfl
theorem at_3 : atI (a :: b :: c :: d :: l) 3 = some d := atI_nat (n := 3) rfl rfl
theorem at_4 : atI (a :: b :: c :: d :: e :: l) 4 = some e := atI_nat (n := 4) rfl rfl
end
theorem ix_40 : ixN 4 0 = some 0 := rfl
theorem ix_41 : ixN 4 1 = some 1 := rfl
theorem ix_42 : ixN 4 2 = some 2 := rfl
theorem ix_43 : ixN 4 3 = some 3 := rfl
theorem at_nn {α : Type} {l : List α} {i : Int} (h0 : 0 ≤ i) (h1 : i < l.length) : ∃ x, atI l i = some x ∧ l[i.toNat]? = some x := by
  have hn : i.toNat < l.length := by omega
  exact ⟨l[i.toNat], atI_nat (n := i.toNat) (by omega) (List.getElem?_eq_getElem hn), List.getElem?_eq_getElem hn⟩
theorem mulR {i j : Int} (h : -(2 ^ 64) < j ∧ j < 2 ^ 64) : CMulA i j := .inl (.inr h)
theorem mulL {i j : Int} (h : -(2 ^ 64) < i ∧ i < 2 ^ 64) : CMulA i j := .inl (.inl h)
theorem divS {i j : Int} (h0 : 0 < j) (h : j < 2 ^ 64) : CDivW i j := ⟨h0, by
  have : j.natAbs < 2 ^ 64 := by omega
  have h2 : j.natAbs ≠ 0 := by omega
  have := (Nat.log2_lt h2).mpr this
  omega⟩
theorem powS {i j : Int} (h0 : 0 ≤ j) (h1 : j ≤ 1000000) (h2 : i.natAbs < 2 ^ 64) : CPow i j := ⟨h0, h1, h2⟩
/-- a slot of which only this is known: it holds data, or nothing -/
def jk (o : Option D) : Option U := o.map U.d
theorem vw_jk (m : Bool) (o : Option D) : vw1 m (jk o) = jk o := by cases o <;> cases m <;> rfl
theorem jk_none : none = jk none := rfl
theorem jk_some (d : D) : some (U.d d) = jk (some d) := rfl
end Pl

namespace Pl
open PySem L2
section
variable {X : Cx} {W : WX} {e a b c tg : Expr} {st : Stmt} {ta tb tc te : TE} {ua ub uc ue : UE} {g : TG} {ug : UG} {pos p p2 : Pos}
/-! ### a, b = e -/
def uAsgT (m : Bool) (ug : UG) (ue : UE) : US := fun k s => ev m ue k s fun r => onD r fun x => ∃ ps, ug x = some ps ∧ k.nx (setU s ps)
theorem RepS.setU {K : Fr} {R : Rg} {F0 H0 F H : Hp} : ∀ {ps : List (Nat × D)} {qs : List (Nat × V)} {σ : St} {s : Sl}, RepS K R F0 H0 F H σ s → RepP K F qs ps → RepS K R F0 H0 F H (setV σ qs) (Pl.setU s ps)
  | [], [], _, _, h, _ => h
  | (i, d) :: ps, (j, v) :: qs, σ, s, h, r => by
    obtain ⟨ei, r1, r2⟩ := r
    subst ei
    exact (show RepS K R F0 H0 F H (setV (σ.set j (some v)) qs) (Pl.setU (s.set j (some (.d d))) ps) from RepS.setU (h.put_d r1) r2)
  | [], _ :: _, _, _, _, r => r.elim
  | _ :: _, [], _, _, _, r => r.elim
theorem ds_asgT (m : Bool) (h : DE X W e te ue) (hg : DG X tg g ug) (hs : swapsWithSole [tg] e pos.line X.env = pure false := by rfl) (hw : swappedStores [tg] e X.env = pure none := by rfl)
    (h1 : (assignEach [tg] X.env).map (·.2) = [assign tg X.env] := by rfl) : DS X W (.Assign [tg] e pos) (tAsg te g) (uAsgT m ug ue) := by
  refine ⟨ps_asg h.pe hg.pg hs hw h1, fun R F0 H0 F H σ s k D rs cn q => ?_⟩
  refine h.snd.run m rs cn (P := fun r => onD r fun x => ∃ ps, ug x = some ps ∧ k.nx (Pl.setU s ps)) q fun v r F' H' g' rs' rep p => ?_
  obtain ⟨F2, y, g2, rs2, d2, ps, e1, p2⟩ := rs.dat g' rep p
  exact hg.snd F2 H' σ v y ps _ rs2.g.ok.sub d2 e1 fun qs rq => cn.nx F2 H' _ _ (rs2.setU rq) p2
/-- a, b = x, y, stored from the right -/
def uPar (i j : Nat) (ut : UA) : US := fun k s => ut (vw false s) (fun rs => match rs with | [.d x, .d y] => k.nx ((s.set i (some (.d x))).set j (some (.d y))) | _ => False) (fun x => k.ex x s)
theorem ds_par {x y : Str} {ta : TA} {ut : UA} {px py pt : Pos} {kt k2 pt2} (i j : Nat) (ha : DA X W [a, b] ta ut) (hc : X.calm = true) (hN : X.N.Nodup) (hij : i ≠ j) (hi : X.N[i]? = some x := by rfl) (hj : X.N[j]? = some y := by rfl)
    (hx : X.env.scope.names.lookup x = some .local := by rfl) (hy : X.env.scope.names.lookup y = some .local := by rfl)
    (hw : swappedStores [.Tuple [.Name x px, .Name y py] kt pt] (.Tuple [a, b] k2 pt2) X.env = pure (some [x, y]) := by rfl)
    (hs : swapsWithSole [.Tuple [.Name x px, .Name y py] kt pt] (.Tuple [a, b] k2 pt2) pos.line X.env = pure false := by rfl) :
    DS X W (.Assign [.Tuple [.Name x px, .Name y py] kt pt] (.Tuple [a, b] k2 pt2) pos) (tPar i j ta) (uPar i j ut) := by
  refine ⟨ps_par hc hN hi hj hij hx hy ha.pa hw hs, fun R F0 H0 F H σ s k D rs cn q => ?_⟩
  refine ha.snd R F H σ _ _ _ _ rs.hid rs.g.ok q (fun vs us F' H' g ra pp => ?_) fun cls d x F' H' g rep pp => cn.ex F' H' σ s cls d x (rs.grow g) rep pp
  split at pp
  · next x1 y1 =>
    match vs, ra with
    | [v1, v2], ra =>
      obtain ⟨r1, r2, _⟩ := ra
      exact ⟨v1, v2, rfl, cn.nx F' H' _ _ (((rs.grow g).put_d r1).put_d r2) pp⟩
  · exact pp.elim
/-! ### is True, is False -/
def oIsB (neg : Bool) : Op2 := fun x y P => match x, y with
  | .bool a, .bool b => P (.d (.bool (if neg then !decide (a = b) else decide (a = b))))
  | _, _ => False
theorem do_isB : DO X (compareOp .Is) rIsB (oIsB false) := ⟨op_isBl, fun R F H x y dx dy P Q ok h1 h2 h c => by
  cases h1 <;> cases h2 <;> first | exact h.elim | skip
  exact ⟨_, _, rfl, rfl, c _ (.d (.bool _)) F H ok.refl (.bl _) h⟩⟩
theorem do_notB : DO X (compareOp .IsNot) rNotB (oIsB true) := ⟨op_notBl, fun R F H x y dx dy P Q ok h1 h2 h c => by
  cases h1 <;> cases h2 <;> first | exact h.elim | skip
  exact ⟨_, _, rfl, rfl, c _ (.d (.bool _)) F H ok.refl (.bl _) h⟩⟩
/-! ### a op b op c -/
def uChain (o o' : Op2) (ua ub uc : UE) : UE := fun s P PX => ua s (fun r => onD r fun x => ub s (fun r' => onD r' fun y => o x y fun z => onBool z fun k => if k = true then uc s (fun r2 => onD r2 fun w => o' y w P) PX else P (.d (.bool false))) PX) PX
theorem snd_chain {K : Fr} {r r' : R2} {o o' : Op2} (hr : SndR K r o) (hr' : SndR K r' o') (ha : SndE K W ta ua) (hb : SndE K W tb ub) (hc : SndE K W tc uc) : SndE K W (tChain r r' ta tb tc) (uChain o o' ua ub uc) := by
  intro R F H σ s P PX Q rd ok h cn out
  refine ha.dat rd ok h (fun v x F1 H1 g1 d1 h1 => ?_) out
  refine hb.dat (rd.sub g1.ex) g1.ok h1 (fun w y F2 H2 g2 d2 h2 => ?_) (out.step g1)
  have g12 := g1.trans g2
  refine hr R F2 H2 v w x y _ _ g2.ok (d1.subH g2.ex) d2 h2 fun z rz F3 H3 g3 rep p => ?_
  have g13 := g12.trans g3
  unfold onBool at p
  split at p
  · next k =>
    cases (rep : Dp K F3 z (.bool k))
    refine ⟨k, rfl, ?_⟩
    cases k with
    | true =>
      refine hc.dat (rd.sub g13.ex) g13.ok p (fun w3 y3 F4 H4 g4 d4 h4 => ?_) (out.step g13)
      have g14 := g13.trans g4
      exact hr' R F4 H4 w w3 y y3 P Q g4.ok ((d2.subH g3.ex).subH g4.ex) d4 h4 fun z r F5 H5 g5 rep5 p5 => cn z r F5 H5 (g14.trans g5) (rep5.back g14) p5
    | false => exact cn _ (.d (.bool false)) F3 H3 g13 (.bl _) p
  · exact p.elim
theorem de_chain {op op' : CmpOp} {r r' : R2} {o o' : Op2} (h : DO X (compareOp op) r o) (h' : DO X (compareOp op') r' o') (ha : DE X W a ta ua) (hb : DE X W b tb ub) (hc : DE X W c tc uc)
    (hm : lastMarks [op, op'] [b, c] = false := by with_unfolding_all rfl) : DE X W (.Compare a [op, op'] [b, c] pos) (tChain r r' ta tb tc) (uChain o o' ua ub uc) := ⟨pe_chain h.op h'.op ha.pe hb.pe hc.pe hm, snd_chain h.snd h'.snd ha.snd hb.snd hc.snd⟩
theorem dt_chain {op op' : CmpOp} {r r' : R2} {o o' : Op2} (h : DO X (compareOp op) r o) (h' : DO X (compareOp op') r' o') (ha : DE X W a ta ua) (hb : DE X W b tb ub) (hc : DE X W c tc uc)
    (hm : lastMarks [op, op'] [b, c] = false := by with_unfolding_all rfl) : DT X W (.Compare a [op, op'] [b, c] pos) (tTest (tChain r r' ta tb tc)) (uTst (uChain o o' ua ub uc)) := by
  refine ⟨pt_chain h.op h'.op ha.pe hb.pe hc.pe hm, fun R F H σ s P PX Q rd ok q cn o => ?_⟩
  refine snd_chain h.snd h'.snd ha.snd hb.snd hc.snd R F H σ s _ PX _ rd ok q (fun v r F1 H1 g rep p => ?_) o
  unfold onBool at p
  split at p
  · cases (rep : Dp X.K F1 v (.bool _))
    exact ⟨_, rfl, cn _ F1 H1 g p⟩
  · exact p.elim
/-! ### max, min of two ints -/
def oMax2 : OpL := fun l P => match l with
  | [.int i, .int j] => P (.d (.int (if j > i then j else i)))
  | _ => False
theorem dc_max2 (hc : X.calm = true) : DC X (.builtin "max") (fun xs H Q => ∃ i j, xs = [.int i, .int j] ∧ Q (.int (if j > i then j else i)) H) oMax2 := by
  refine ⟨call_max2 hc, fun R F H vs l P Q ok h q c => ?_⟩
  unfold oMax2 at q
  split at q
  · cases h with
    | cons h1 h2 => cases h1; cases h2 with
      | cons h3 h4 => cases h3; cases h4; exact ⟨_, _, rfl, c _ (.d (.int _)) F H ok.refl (.int _) q⟩
  · exact q.elim
end
/-! ### f() -/
section
variable {P : Program} {w : World} {K : Fr} {mg : Str → Option Value} {base : Heap} {X : Cx} {W : WX} {k : Nat} {x : Str} {st : Stmt} {fn : Fn} {fd : FuncData} {p pos : Pos}
def uCall0 (f : Fn) : UE := fun _ P PX => f [] P PX
def tCall0 (sp : Sp) (E : St → XK) : TE := fun σ H Q => sp [] H Q (E σ)
theorem de_own0 (h : Has P w K mg base k x st [] fn fd) (md : Md X P w K mg base) (hr : Room k X.A) (hg : Gl X x) (air : Air X W) (hdb : (x == ("__debug__" : Str)) = false := by decide) :
    DE X W (.Call (.Name x p) [] [] pos) (tCall0 (SpD K 0 fn) (WE W)) (uCall0 fn) := by
  obtain ⟨rfl, rfl, rfl, rfl, rfl⟩ := md
  refine ⟨⟨fun pins s σ H Q I hh => ?_⟩, fun R F H σ s P PX Q rd ok q c o => ?_⟩
  · refine wpAny_Call_Name_kw (ld_glob I hg h.gl ?_ hdb)
    exact PySem.W.callWith_K0 I.kIn h.kp (run_fnS (us := []) h.ok hr h.b (air σ) I .nil hh)
  · exact ⟨R, F, [], P, PX, ok, trivial, rfl, q, fun v r F' H' g rep p => c v r F' H' g rep p, fun cls d x F' H' g rep p => o cls d x F' H' g rep p⟩
end
end Pl

namespace L2
open PySem PySem.Spec PyProof.Rows
/-! ### try: .. except C as e: .. (further clauses, never come to: each error of the body is the first clause's) -/
def wAsT (K : PySem.W.Frag) (c : Value) (i : Nat) (ts : Addr → Value → Option Addr → TS) (D : Ends) : WX := fun cls d σ H => PySem.W.exmOne K cls c = some true ∧
  ∀ a, H a = none → ts a cls d { nx := fun σ2 H2 => D.nx (σ2.set i none) H2, rt := D.rt, bk := fun σ2 H2 => D.bk (σ2.set i none) H2, ct := fun σ2 H2 => D.ct (σ2.set i none) H2 } (σ.set i (some (.ref a))) H
section
variable {X : Cx} {x n : Str} {c : Value} {i : Nat} {body suite : List Stmt} {st0 : Stmt} {np pos p9 : Pos} {tb : WX → TS} {ts : Addr → Value → Option Addr → TS} {more : List ExceptHandler}
theorem ps_try_asT (stk : X.stack = X.env :: X.outer) (fr : X.env.frame = some X.env.locals) (nd : X.N.Nodup) (ni : X.N[i]? = some n) (nl : X.env.kindOf n = some .local) (nm : Names X x c)
    (hb : ∀ (W : WX) (pn : List (Addr × Obj)) (xe : Value → Shared → Prop), Takes (X.tr pn xe) W → PassesOwn (model X.prog X.w) X.A X.env xe → PSs (X.tr pn xe) body (tb W))
    (su : ∀ (a : Addr) (oe : Obj) (cls : Value) (d : Option Addr) (pn : List (Addr × Obj)), Zc cls d oe → (∃ vs, oe.data = .fields vs) → PSs (X.suite a ((a, oe) :: pn)) (st0 :: suite) (ts a cls d)) :
    PS X (.Try body (.ExceptHandler (some (.Name x np)) (some n) (st0 :: suite) p9 :: more) [] [] pos) (fun D σ H => tb (wAsT X.K c i ts D) D σ H) := by
  refine ⟨fun pins s σ H D inv h => ?_⟩
  have xo := inv.ok
  have afr : X.A.frames = some (X.env :: X.outer) := by rw [xo.frames, stk]
  let hl : List ExceptHandler := .ExceptHandler (some (.Name x np)) (some n) (st0 :: suite) p9 :: more
  let wish : Value → Shared → Prop := fun e r1 => wpAny (model X.prog X.w) X.A (noteFrame e X.env) (fun _ r2 => wpAny (model X.prog X.w) X.A (setFlight e none) (fun _ r3 => wpAny (model X.prog X.w) X.A (handleBy e X.env hl) (SP X pins D) X.xe r3) X.xe r2) X.xe r1
  have takes : Takes (X.tr (X.pn ++ pins) wish) (wAsT X.K c i ts D) := fun u r xx => by
    obtain ⟨q, B, sI, pins2, σ2, H2, cls, d, rfl, J0, nb, up, sky, na, os, ag, ex1, yes⟩ := xx
    have J : Inv X pins σ2 H2 sI := J0.ofTry xo
    have sk2 : Sky B (X.env :: X.outer) q (Zc cls d) X.env.locals r.heap := by rw [← stk]; exact sky
    show wpAny (model X.prog X.w) X.A (noteFrame (.ref q) X.env) _ _ _
    refine Sky.land Zc.steady afr fr sk2 fun g3 fl3 up3 => ?_
    have J3 : Inv X pins σ2 H2 { r with heap := g3 } := J.landed nb fl3.1 (up.trans up3) os ag
    obtain ⟨o3, v3, at3, z3, dt3⟩ := fl3.there
    have nfr : q ∉ frs (X.env :: X.outer) := fun hm => by
      obtain ⟨_, o', e', hn⟩ := fl3.2.2.1.mem hm
      rw [at3] at e'; cases e'
      exact hn _ dt3
    have nloc : q ≠ X.env.locals := fun z => nfr (List.mem_filterMap.mpr ⟨X.env, .head _, by rw [fr, z]⟩)
    have nfs : q ∉ X.fs := fun hm => by
      obtain ⟨e, he, w⟩ := List.mem_filterMap.mp hm
      exact nfr (List.mem_filterMap.mpr ⟨e, .tail _ he, w⟩)
    have hot3 := J3.suite at3 dt3 na nloc nfs
    refine wpAny_handleBy_cons (codeAny_handlers_test ?_) (by intro w; cases w)
    have looksT : PySem.W.Looks (model X.prog X.w) g3 (typeOf (.ref q)) cls := fun A Q E s k w => wpAny_typeOf_ref (k _ _ at3) (by rw [z3.1]; exact w)
    have looksM := PySem.W.exm_one (M := model X.prog X.w) J3.kIn looksT ex1
    have named : ∀ {Q : Value → Shared → Prop} {E : Value → Shared → Prop}, Q c { r with heap := g3 } → wpAny (model X.prog X.w) (X.A.mark (some (.ref q))) (eval (.Name x np) X.env) Q E { r with heap := g3 } := fun {Q E} w => by
      obtain ⟨n1, n2, n3 | ⟨n3, n4, n5⟩⟩ := nm
      · exact ld_glob (X := X.suite q ((q, o3) :: (X.pn ++ pins))) hot3 n1 n3 w n2
      · exact ld_blt (X := X.suite q ((q, o3) :: (X.pn ++ pins))) hot3 n1 n3 n4 w n5 n2
    refine named (looksM.here (codeAny_handlers_suite_as ?_))
    refine HandSPX.lands_againZ fl3 fun g4 fl4 up4 => ?_
    have J4 : Inv X pins σ2 H2 { r with heap := g4 } := J.landed nb fl4.1 ((up.trans up3).trans up4) os ag
    obtain ⟨o4, v4, at4, z4, dt4⟩ := fl4.there
    have hot4 := J4.suite at4 dt4 na nloc nfs
    refine store_ok (X := X.suite q ((q, o4) :: (X.pn ++ pins))) (v := .ref q) hot4 nd ni (.inl nl) rfl (fun s5 hot5 => ?_) (.inr nl)
    refine wpAny_mono ((su q o4 cls d (X.pn ++ pins) z4 ⟨_, dt4⟩).run [] s5 _ H2 _ hot5 (yes q na)) (fun f s6 hsp => ?_) (fun _ _ z => False.elim z)
    have over : ∀ {σ6 : St} {H6 : Hp} {Q : Shared → Prop}, Inv (X.suite q ((q, o4) :: (X.pn ++ pins))) [] σ6 H6 s6 → (∀ s7, Inv X pins (σ6.set i none) H6 s7 → Q s7) →
        wpAny (model X.prog X.w) X.A (do bindName X.env n .none; unbindBehindTheSuite X.env n p9) (fun _ s7 => Q s7) X.xe s6 := fun {σ6 H6 Q} hot6 w => gone_ok (hot6.unsuite xo) nd ni nl w
    cases f with
    | next => obtain ⟨σ6, H6, hot6, w6⟩ := hsp; exact over hot6 fun s7 J7 => ⟨_, _, J7, w6⟩
    | brk => obtain ⟨σ6, H6, hot6, w6⟩ := hsp; exact over hot6 fun s7 J7 => ⟨_, _, J7, w6⟩
    | cont => obtain ⟨σ6, H6, hot6, w6⟩ := hsp; exact over hot6 fun s7 J7 => ⟨_, _, J7, w6⟩
    | ret u => obtain ⟨v6, σ6, H6, hot6, rv, w6⟩ := hsp; exact over hot6 fun s7 J7 => ⟨_, _, _, J7, rv, w6⟩
  refine wpAny_Try_except (wpAny_mono ((hb (wAsT X.K c i ts D) (X.pn ++ pins) wish takes PassesOwn.looking).run [] s σ H D (inv.toTry _) h) (fun f s1 hsp => ?_) (fun e s1 he => he))
  cases f with
  | next => obtain ⟨σ2, H2, J2, w2⟩ := hsp; exact wpAny_execs_nil ⟨σ2, H2, J2.ofTry xo, w2⟩
  | brk => obtain ⟨σ2, H2, J2, w2⟩ := hsp; exact ⟨σ2, H2, J2.ofTry xo, w2⟩
  | cont => obtain ⟨σ2, H2, J2, w2⟩ := hsp; exact ⟨σ2, H2, J2.ofTry xo, w2⟩
  | ret u => obtain ⟨v, σ2, H2, J2, rv, w2⟩ := hsp; exact ⟨v, σ2, H2, J2.ofTry xo, rv, w2⟩
end
end L2

namespace Pl
open PySem L2
section
variable {X : Cx} {W : WX} {x n : Str} {c : Value} {i : Nat} {body suite : List Stmt} {b₀ : Stmt} {np pos pos' : Pos} {tb : WX → TS} {ts : Addr → Addr → Addr → TS} {us : Addr → Addr → Addr → US} {ub : US} {more : List ExceptHandler}
/-! ### try .. except C as e and further clauses that no error of the body comes to -/
def kTryT (K : Fr) (c : Value) (i : Nat) (cs : Addr → Prop) (us : Addr → Addr → Addr → US) (k : KS) : KS := { k with ex := fun x s' => PySem.W.exmOne K (.ref x.C) c = some true ∧ cs x.C ∧ ∀ a dd, us x.C a dd { nx := fun s2 => k.nx (s2.set i none), rt := k.rt, bk := fun s2 => k.bk (s2.set i none), ct := fun s2 => k.ct (s2.set i none), ex := fun _ _ => False } (s'.set i (some (.exc a dd x.fs))) }
def uTryT (K : Fr) (c : Value) (i : Nat) (cs : Addr → Prop) (ub : US) (us : Addr → Addr → Addr → US) : US := fun k => ub (kTryT K c i cs us k)
theorem ds_tryT (cs : Addr → Prop) (hs : X.stack = X.env :: X.outer) (hf : X.env.frame = some X.env.locals) (hex : X.ex = []) (hN : X.N.Nodup) (hi : X.N[i]? = some n) (hln : X.env.kindOf n = some .local) (hc : Names X x c)
    (hb : ∀ (W : WX) (pn : List (Addr × Obj)) (xe : Value → Shared → Prop), Takes (X.tr pn xe) W → PassesOwn (model X.prog X.w) X.A X.env xe → DSs (X.tr pn xe) W body (tb W) ub)
    (hsu : ∀ (C a dd : Addr) (oe : Obj) (pn : List (Addr × Obj)), cs C → Zc (.ref C) (some dd) oe → (∃ vs, oe.data = .fields vs) → DSs (X.suite a ((a, oe) :: pn)) W0 (b₀ :: suite) (ts C a dd) (us C a dd)) :
    DS X W (.Try body (.ExceptHandler (some (.Name x np)) (some n) (b₀ :: suite) pos' :: more) [] [] pos) (fun D σ H => tb (wAsT X.K c i (tSu cs ts) D) D σ H) (uTryT X.K c i cs ub us) := by
  refine ⟨ps_try_asT hs hf hN hi hln hc (fun W pn xe t po => (hb W pn xe t po).ps) (fun a oe cls d pn hz hfl => ⟨fun pins s σ H D I h => ?_⟩), fun R F0 H0 F H σ s k D rs cn q => ?_⟩
  · obtain ⟨C, dd, rfl, rfl, hcs, h'⟩ := h
    exact (hsu C a dd oe pn hcs hz hfl).ps.run pins s σ H D I h'
  · have inst : ∀ W, SndS X.K W (tb W) ub := fun W => by
      let xe0 : Value → Shared → Prop := fun e s' => wpAny (model X.prog X.w) X.A (leaving X.env e) (fun _ s'' => L2.CX X.prog X.w X.outer X.H_0 X.s_0 (fun _ _ _ => True) e s'') (fun _ _ => True) s'
      have t1 : Takes (X.tr X.pn xe0) (fun _ _ _ _ => True) := takes_of (X := X.tr X.pn xe0) (E := fun _ _ _ => True) hs hf hex rfl
      exact (hb W X.pn xe0 (t1.imp fun _ _ _ _ _ => trivial) (passes_of (X := X.tr X.pn xe0) rfl)).snd
    refine inst _ R F0 H0 F H σ s (kTryT X.K c i cs us k) D rs ⟨cn.nx, cn.rt, cn.bk, cn.ct, fun F1 H1 σ1 s1 cls d x1 rs1 rx hk => ?_⟩ q
    obtain ⟨hb1, hcs, hu⟩ := hk
    obtain ⟨rfl, dd, gs, rfl, hF, hl⟩ := rx
    refine ⟨hb1, fun a ha => ?_⟩
    refine ⟨x1.C, dd, rfl, rfl, hcs, ?_⟩
    have sn := (hsu x1.C a dd { cls := .ref x1.C, dict := some dd, data := .fields #[] } [] hcs ⟨rfl, rfl⟩ ⟨_, rfl⟩).snd
    refine sn R F0 H0 F1 H1 _ _ (kSu k i) _ (rs1.put_exc (i := i) (v := .ref a) (a := a) (dd := dd) (fs := x1.fs) ⟨rfl, gs, hF, hl⟩) ⟨fun F2 H2 σ2 s2 r2 p2 => cn.nx F2 H2 _ _ r2.put_none p2, fun F2 H2 σ2 s2 v r r2 rr p2 => cn.rt F2 H2 σ2 s2 v r r2 rr p2, fun F2 H2 σ2 s2 r2 p2 => cn.bk F2 H2 _ _ r2.put_none p2, fun F2 H2 σ2 s2 r2 p2 => cn.ct F2 H2 _ _ r2.put_none p2, fun _ _ _ _ _ _ _ _ _ z => z.elim⟩ (hu a dd)
end
end Pl

namespace Pl
open PySem L2
theorem bt_sorted : bootBuiltins "sorted" = some (.builtin "sorted") := by first | rfl | kernel_rfl
theorem bt_max : bootBuiltins "max" = some (.builtin "max") := by first | rfl | kernel_rfl
section
variable {X : Cx}
/-! ### sorted(xs) of a list of ints -/
def oSortI : OpL := fun l P => match l with
  | [.list m] => ∃ ns, intsD m = some ns ∧ ∀ ns' : List Int, ns'.Perm ns → ns'.Pairwise (· ≤ ·) → P (.own (ns'.map .int))
  | _ => False
theorem dc_sortI : DC X (.builtin "sorted") (rSortedI X.K) oSortI := by
  refine ⟨cr_sortedI, ?_⟩
  intro R F H vs l P Q ok h q c
  unfold oSortI at q
  split at q
  · obtain ⟨ns, e, q⟩ := q
    cases h with
    | cons h1 h2 =>
      cases h2
      cases h1 with
      | @lst a xs _ hs ha =>
        have ex := ints_rep ha e
        subst ex
        refine ⟨a, ns, rfl, ok.sub.l hs, fun ns' p hp hs' hn => ?_⟩
        obtain ⟨g, rep⟩ := ok.own hn (dps_ints ns')
        exact c _ (.own _) _ _ g rep (q ns' hp hs')
  · exact q.elim
/-! ### str(i), repr(i) of an int -/
def oStrI : OpL := fun l P => match l with
  | [.int i] => i.natAbs.log2 < 1920 ∧ P (.d (.str (toString i)))
  | _ => False
theorem dc_strI : DC X (.type "str") (fun xs H Q => ∃ i, xs = [.int i] ∧ i.natAbs.log2 < 1920 ∧ Q (.str (toString i)) H) oStrI := by
  refine ⟨call_str_int, ?_⟩
  intro R F H vs l P Q ok h q c
  unfold oStrI at q
  split at q
  · obtain ⟨hz, q⟩ := q
    cases h with
    | cons h1 h2 =>
      cases h2; cases h1
      exact ⟨_, rfl, hz, c _ (.d (.str _)) F H ok.refl (.str _) q⟩
  · exact q.elim
end
end Pl

namespace Pl
open PySem L2 PyProof.Rows
theorem unitsH {k : Nat} {A : Around} (h : L2H.RoomH k A) : A.units + 64 < cLine := by have := h.un; omega
/-! ### a def that is called within an except suite: it neither raises nor runs a loop, so nothing is asked of the error but that it stands -/
section
variable {P : Program} {w : World} {K : Fr} {mg : Str → Option Value} {base : Heap}
structure FnW (P : Program) (w : World) (K : Fr) (mg : Str → Option Value) (base : Heap) (k : Nat) (f : Addr) (fd : FuncData) (ps : List Str) (sp : Sp) : Prop where
  lenW : ∀ vs H Q E, sp vs H Q E → vs.length = ps.length
  runW : ∀ (A : Around) (outs : List Env) (s : Shared) (H : Hp) (ar : Args) (us : List Value) (vs : List V) (Q : VK) (E : XK) (pn : Addr × Obj), L2H.RoomH k A → L2H.PinOk outs H s pn → Env0 P w K mg base A outs s H →
    BindsTo s fd ar (ps.zip us) → Vals vs us → sp vs H Q E → codeAny (model P w) A (.call (.ref f) ar) (CR (L2.CX P w) outs P w H s Q E) s
theorem fnW_of {x qual : Str} {st : Stmt} {f : Addr} {fd : FuncData} {N ps : List Str} {k : Nat} {sp : Sp} (F : Fun K x qual st f fd) (S : FnScope N ps (defScope st)) (len : ∀ vs H Q E, sp vs H Q E → vs.length = ps.length)
    (hbody : ∀ (cdv : Value) (A : Around) (outs : List Env) (s : Shared) (H : Hp) (vs : List V) (Q : VK) (E : XK) (pn : Addr × Obj), L2H.RoomH k (A.deeper (envOfC qual (defScope st) s.heap.objs.size f cdv)) → sp vs H Q E →
      ∃ t, PSs (L2H.cxH (L2.CX P w) P w K mg base N qual (defScope st) f cdv A outs s H E pn) (defBody st) t ∧ t { nx := fun _ H' => Q .non H', rt := Q } (L2.start N vs) H) :
    FnW P w K mg base (k + 1) f fd ps sp := by
  obtain ⟨oc, od, kV, doc, pm, an, cdv, ct, osl, efd, hlook, hcode⟩ := F.ex
  subst efd
  refine ⟨len, fun A outs s H ar us vs Q E pn room hpin env bind rv hsp => ?_⟩
  have lenv := len _ _ _ _ hsp
  have inK : K.In s.heap := env.mod.kin.keeps fun b o z => (env.bs b o z).1
  have limit : s.heap.NoLimit := env.mod.nolimit.keeps fun b o z => (env.bs b o z).1
  have kinds : ∀ y ∈ ps.zip us, (defScope st).names.lookup y.1 = some .local ∨ ((defScope st).names.lookup y.1 = some .cell ∧ ((cellsFrom (s.heap.objs.size + 1) (defScope st).names []).lookup y.1).isSome = true) := by
    rintro ⟨nm, val⟩ hy
    rcases S.par nm (List.of_mem_zip hy).1 with hq | hq
    · exact Or.inl hq
    · exact Or.inr ⟨hq, PySem.W.cellsFrom_some _ _ _ (Or.inl hq)⟩
  refine codeAny_call_function room.depth (inK _ _ hlook) rfl S.co S.gen rfl (PySem.W.codeRec_of inK hcode) (bind _ _ _ _ ?_)
  refine wpAny_newFunctionEnv_cells S.kind kinds fun en hen t1 st1 => ?_
  subst hen
  refine ⟨limit.keeps st1.toInCall.keep, codeAny_func ?_⟩
  obtain ⟨tt, runs, says⟩ := hbody cdv A outs s H vs Q E pn (room.deeper _) hsp
  have I0 : Inv (L2H.cxH (L2.CX P w) P w K mg base N qual (defScope st) f cdv A outs s H E pn) [] (L2.start N vs) H t1 := L2H.inv_startH S hpin env lenv rv st1
  refine wpAny_mono (runs.run [] t1 (L2.start N vs) H _ I0 says) (fun fl t2 ends => ?_) fun _ _ z => z
  cases fl with
  | ret u =>
    obtain ⟨v, σ', H', J, r1, q1⟩ := ends
    exact ⟨v, H', J.os, J.bare, J.base, J.hok, r1, q1⟩
  | next =>
    obtain ⟨σ', H', J, q1⟩ := ends
    exact ⟨V.non, H', J.os, J.bare, J.base, J.hok, rfl, q1⟩
  | brk => exact (ends.choose_spec.choose_spec.2 : False).elim
  | cont => exact (ends.choose_spec.choose_spec.2 : False).elim
/-- the context bears a pin -/
def PinC (X : Cx) : Prop := ∃ q : Addr × Obj, q ∈ X.pn
theorem run_fnW {X : Cx} {k : Nat} {f : Addr} {fd : FuncData} {ps : List Str} {sp : Sp} {E : XK} {pins : List (Addr × Obj)} {σ : L2.St} {H : Hp} {s : Shared} {Q : VK} {us : List Value} {vs : List V} (F : FnW X.prog X.w X.K X.mg X.base k f fd ps sp) (room : L2H.RoomH k X.A) (hc : PinC X) (hb : Binds X.K fd ps [])
    (hx : PassesAt (L2.CX X.prog X.w) X σ E) (I : Inv X pins σ H s) (r : Vals vs us) (h : sp vs H Q E) : wpAny (model X.prog X.w) X.A (call (.ref f) us) (EP X pins σ Q) X.xe s := by
  obtain ⟨q, hq⟩ := hc
  have hlen : us.length = ps.length := r.length.symm.trans (F.lenW _ _ _ _ h)
  have b0 := hb s us I.kIn (by rw [List.append_nil]; exact hlen)
  rw [List.append_nil] at b0
  have pq := I.pin q (List.mem_append_left _ hq)
  have ok : L2H.PinOk X.stack H s q := ⟨pq.1, pq.2.1, fun z => (List.mem_cons.mp (I.stkSub q.1 z)).elim pq.2.2.1 pq.2.2.2.1, pq.2.2.2.2⟩
  refine wpAny_call (codeAny_mono (F.runW X.A X.stack s H ⟨us, []⟩ us vs Q E q room ok I.env0 b0 r h) fun res t hres => ?_)
  cases res with
  | error e => exact hx pins H s e t I hres
  | ok fl => cases fl with
    | ret u => exact I.after hres
    | next => exact hres.elim
    | brk => exact hres.elim
    | cont => exact hres.elim
end
section
variable {P : Program} {w : World} {K : Fr} {mg : Str → Option Value} {base : Heap} {X : Cx} {k : Nat} {x : Str} {st : Stmt} {ps : List Str} {fn : Fn} {fd : FuncData} {e : Expr} {es : List Expr} {t : TA} {ut : UA} {p pos : Pos}
/-- a def that is had, for calls from a suite -/
structure HasW (P : Program) (w : World) (K : Fr) (mg : Str → Option Value) (base : Heap) (k : Nat) (x : Str) (st : Stmt) (ps : List Str) (fn : Fn) (fd : FuncData) : Prop where
  gl : mg x = some (.ref (He.ga K x))
  kp : PySem.W.keepIn K (.ref (He.ga K x)) = true
  fu : Fun K x x st (He.ga K x) fd
  b : Binds K fd ps []
  ok : FnW P w K mg base k (He.ga K x) fd ps (SpD K ps.length fn)
theorem de_ownW (h : HasW P w K mg base k x st ps fn fd) (md : Md X P w K mg base) (hr : L2H.RoomH k X.A) (hc : PinC X) (hg : Gl X x) (ha : DA X W0 (e :: es) t ut)
    (hdb : (x == ("__debug__" : Str)) = false := by decide) (he : starEach (e :: es) X.env = (false, eval e X.env) :: starEach es X.env := by rfl) (hpl : (backTo pos (starEach es X.env)).any (·.1) = false := by rfl) :
    DE X W0 (.Call (.Name x p) (e :: es) [] pos) (tCallS (SpD K ps.length fn) (WE W0) t) (uCall ps.length fn ut) := by
  obtain ⟨rfl, rfl, rfl, rfl, rfl⟩ := md
  refine ⟨⟨fun pins s σ H Q I q => ?_⟩, fun R F1 H σ s P PX Q rd ok q c o => ?_⟩
  · refine wpAny_Call_Name_kw (ld_glob I hg h.gl ?_ hdb)
    exact PySem.W.callWith_K (h₀ := X.base) I.ok.mod.kin h.kp (thn (ha.pa.run pos pins s σ H _ I q) fun us s1 ⟨vs, H1, I1, r, q1⟩ => ⟨I1.kIn, run_fnW h.ok hr hc h.b (air0 σ) I1 r q1⟩) he hpl
  · refine ha.snd R F1 H σ s _ PX _ rd ok q (fun vs rs F2 H2 g ras q => ?_) o
    exact ⟨R, F2, rs, P, PX, g.ok, ras, q.1, q.2, fun v r F3 H3 g3 rep p => c v r F3 H3 (g.trans g3) (rep.back g) p, fun cls d x F3 H3 g3 rep p => o cls d x F3 H3 (g.trans g3) rep p⟩
/-- THE RULE of a def that is called from a suite -/
theorem fnDW {qual : Str} {f : Addr} {N : List Str} (F : Fun K x qual st f fd) (S : FnScope N ps (defScope st)) (hN : ps.length ≤ N.length)
    (hbody : ∀ (cdv : Value) (A : Around) (outer : List Env) (s : Shared) (H : Hp) (E : XK) (pn : Addr × Obj), L2H.RoomH k (A.deeper (PyProof.Rows.envOfC qual (defScope st) s.heap.objs.size f cdv)) →
      ∃ t u, DSs (L2H.cxH (L2.CX P w) P w K mg base N qual (defScope st) f cdv A outer s H E pn) W0 (defBody st) t u ∧ ∀ (as : List U) (P : U → Prop) (PX : Ex → Prop), as.length = ps.length → fn as P PX → u (kOf P PX) (startU N as)) (hno : ∀ as P PX, fn as P PX → fn as P noX) :
    FnW P w K mg base (k + 1) f fd ps (SpD K ps.length fn) := by
  refine fnW_of F S (fun vs H Q E h => h.len) fun cdv A outer s H vs Q E pn hr hsp => ?_
  obtain ⟨t, u, hd, hp⟩ := hbody cdv A outer s H E pn hr
  obtain ⟨R, F1, as, PP, PX, ok, ra, hn, hf, hQ, hE⟩ := hsp
  refine ⟨t, hd.ps, hd.snd R F1 H F1 H _ _ (kOf PP noX) _ (repS_start ok ra (by omega)) ⟨fun F' H' σ s r q => ?_, fun F' H' σ s v x r rep q => hQ v x F' H' r.g rep q, fun _ _ _ _ _ q => q, fun _ _ _ _ _ q => q, fun _ _ _ _ _ _ _ _ _ z => z.elim⟩ (hp as PP noX hn (hno as PP PX hf))⟩
  exact hQ .non (.d .none) F' H' r.g .non q
end

/-! ### loops, with what follows a turn as a letter -/
section
variable {l : List D} {ui : UI} {ug : UG} {ub : US} {k : KS} {s : Sl} {ut : UT} {m : Bool}
def fIn (l : List D) (ug : UG) (ub : US) (k : KS) (s : Sl) : Prop := ∃ Pv : Nat → Sl → Prop, Pv 0 s ∧ (∀ (i : Nat) (d : D) (s' : Sl), l[i]? = some d → Pv i s' →
  ∃ ps, ug d = some ps ∧ ub { k with nx := Pv (i + 1), ct := Pv (i + 1), bk := k.nx } (setU s' ps)) ∧ ∀ s', Pv l.length s' → k.nx s'
theorem i_for2 (h : ui (vw false s) (fun l => fIn l ug ub k s) (fun x => k.ex x s)) : uFor ui ug ub k s := h
theorem f_in (Pv : Nat → Sl → Prop) (h0 : Pv 0 s) (step : ∀ (i : Nat) (d : D) (s' : Sl), l[i]? = some d → i < l.length → Pv i s' → ∀ NX : Sl → Prop, (∀ s2, Pv (i + 1) s2 → NX s2) → ∃ ps, ug d = some ps ∧ ub { k with nx := NX, ct := NX, bk := k.nx } (setU s' ps))
    (fin : ∀ s', Pv l.length s' → k.nx s') : fIn l ug ub k s := ⟨Pv, h0, fun i d s' e p => step i d s' e (List.getElem?_eq_some_iff.mp e).1 p _ fun _ h => h, fin⟩
theorem i_while (Pv : Nat → Sl → Prop) (n0 : Nat) (h0 : Pv n0 s) (step : ∀ (n : Nat) (s' : Sl), Pv n s' → ∀ NX : Sl → Prop, (∀ n' s2, n' < n → Pv n' s2 → NX s2) → evT m ut k s' fun b => if b = true then ub { k with nx := NX, ct := NX, bk := k.nx } s' else k.nx s') : uWhile ut m ub k s :=
  ⟨Pv, ⟨n0, h0⟩, fun n s' p => step n s' p _ fun n' s2 h1 h2 => ⟨n', h1, h2⟩⟩
end

/-! ### the shape of a list -/
theorem clay_all : ∀ {l : List D}, (∀ x ∈ l, x.canLay0 = true) → PyData.canLayAll0 l = true
  | [], _ => rfl
  | a :: l, h => by
    show (a.canLay0 && PyData.canLayAll0 l) = true
    rw [h a (.head _), clay_all fun x hx => h x (.tail _ hx)]; rfl
theorem dep_all {n : Nat} : ∀ {l : List D}, (∀ x ∈ l, x.depth ≤ n) → PyData.depthAll l ≤ n
  | [], _ => Nat.zero_le _
  | a :: l, h => by
    show max a.depth (PyData.depthAll l) ≤ n
    exact Nat.max_le.mpr ⟨h a (.head _), dep_all fun x hx => h x (.tail _ hx)⟩
theorem sh_listOf {l : List D} (h : ∀ x ∈ l, x.canLay0 = true) (h2 : ∀ x ∈ l, x.depth ≤ 60) : SeqAt.shaped (.list l) = true := by
  show (PyData.canLayAll0 l && decide (PyData.depthAll l + 1 ≤ 64)) = true
  rw [clay_all h, decide_eq_true (by have := dep_all h2; omega)]; rfl
theorem sh_tupOf {l : List D} (h : ∀ x ∈ l, x.canLay0 = true) (h2 : ∀ x ∈ l, x.depth ≤ 60) : SeqAt.shaped (.tuple l) = true := by
  show (PyData.canLayAll0 l && decide (PyData.depthAll l + 1 ≤ 64)) = true
  rw [clay_all h, decide_eq_true (by have := dep_all h2; omega)]; rfl
theorem sh_nil : SeqAt.shaped (.list []) = true := by decide
theorem sh_nilT : SeqAt.shaped (.tuple []) = true := by decide
theorem ev_nil : PyData.eqv (.list []) (.list []) = true := by rfl
theorem ev_cons {a : D} {l : List D} : PyData.eqv (.list (a :: l)) (.list []) = false := by rfl
theorem ev_nilT : PyData.eqv (.tuple []) (.tuple []) = true := by rfl
theorem ev_consT {a : D} {l : List D} : PyData.eqv (.tuple (a :: l)) (.tuple []) = false := by rfl
end Pl

namespace K01
open PySem L2 Pl
def csT (K : Fr) (C : Addr) : Prop := C = He.ga K "NotUsable"
/-- the cell of draws -/
def HVk (l : List D) : Prop := ∃ (i w s : Int) (c : List Int), l = [.int i, .int w, .int s, .list (c.map .int)] ∧ 0 ≤ i ∧ 0 ≤ w ∧ 0 ≤ s
def refused (K : Fr) (nm : Str) : Ex := ⟨He.ga K "NotUsable", [(("at" : Str), .int (-1)), (("word" : Str), .str nm)]⟩
theorem lgN {m : Int} {n : Nat} (h : m.natAbs < 2 ^ n) (hn : n < 9000) : m.natAbs.log2 < 9000 := by
  by_cases z : m.natAbs = 0
  · rw [z]; decide
  · have := (Nat.log2_lt z).mpr h
    omega
theorem mulN {i j : Int} {a b : Nat} (h1 : i.natAbs < 2 ^ a) (h2 : j.natAbs < 2 ^ b) (ha : a < 9000) (hb : b < 9000) : CMulA i j := .inr (by
  have l1 := lgN h1 ha
  have l2 := lgN h2 hb
  show i.natAbs.log2 + j.natAbs.log2 < 1000000
  omega)
theorem lgS {m : Int} (h : m.natAbs < 2 ^ 400) : m.natAbs.log2 < 9000 := lgN h (by decide)
theorem mulW {i j : Int} (h1 : i.natAbs < 2 ^ 400) (h2 : j.natAbs < 2 ^ 400) : CMulA i j := mulN h1 h2 (by decide) (by decide)
theorem divW {i j : Int} (h0 : 0 < j) (h1 : j.natAbs < 2 ^ 400) : CDivW i j := ⟨h0, lgS h1⟩
/-! ### gcd, inverse -/
theorem gcd_step (a b : Nat) : Nat.gcd b (a % b) = Nat.gcd a b := by
  rw [Nat.gcd_comm b, ← Nat.gcd_rec, Nat.gcd_comm]
theorem gcd_next (low t : Nat) : Nat.gcd low (low * t + 1) = 1 := by
  rw [Nat.gcd_comm, Nat.mul_comm]
  simp
theorem inv_uniq {w p r r' : Int} (h0 : 0 ≤ r) (h1 : r < w) (g0 : 0 ≤ r') (g1 : r' < w) (e : (r * p) % w = 1 % w) (e' : (r' * p) % w = 1 % w) : r = r' := by
  have a : (r * (r' * p)) % w = r % w := by
    rw [Int.mul_emod, e', ← Int.mul_emod, Int.mul_one]
  have b : (r' * (r * p)) % w = r' % w := by
    rw [Int.mul_emod, e, ← Int.mul_emod, Int.mul_one]
  have c : r * (r' * p) = r' * (r * p) := by
    rw [← Int.mul_assoc, ← Int.mul_assoc, Int.mul_comm r r']
  rw [c, b, Int.emod_eq_of_lt h0 h1, Int.emod_eq_of_lt g0 g1] at a
  exact a.symm
/-- no inverse if there is a common divisor -/
theorem inv_none {w p g r : Int} (hg : 1 < g) (hw : g ∣ w) (hp : g ∣ p) (e : (r * p) % w = 1 % w) : False := by
  have h1 : (r * p) % g = 1 % g := by
    rw [← Int.emod_emod_of_dvd (r * p) hw, e, Int.emod_emod_of_dvd 1 hw]
  have h2 : (r * p) % g = 0 := Int.emod_eq_zero_of_dvd (Int.dvd_trans hp (Int.dvd_mul_left r p))
  rw [h2, Int.emod_eq_of_lt (by omega) hg] at h1
  omega
/-! ### stripping a factor, the factors -/
def strip (p : Nat) : Nat → Nat → Nat × Nat
  | 0, l => (0, l)
  | f + 1, l => if l % p = 0 then ((strip p f (l / p)).1 + 1, (strip p f (l / p)).2) else (0, l)
theorem strip_eq {p : Nat} (hp : 2 ≤ p) : ∀ (f l : Nat), 0 < l → l < 2 ^ f → (strip p f l).2 * p ^ (strip p f l).1 = l ∧ (strip p f l).2 % p ≠ 0 ∧ 0 < (strip p f l).2 ∧ (strip p f l).1 ≤ f
  | 0, l, h0, h1 => by simp at h1; omega
  | f + 1, l, h0, h1 => by
    unfold strip
    by_cases h : l % p = 0
    · rw [if_pos h]
      have hd : p * (l / p) = l := by have := Nat.div_add_mod l p; omega
      have hl0 : 0 < l / p := by
        rcases Nat.eq_zero_or_pos (l / p) with z | z
        · rw [z] at hd; omega
        · exact z
      have hl1 : l / p < 2 ^ f := by
        have h2 : 2 * (l / p) ≤ l := by
          have := Nat.mul_le_mul_right (l / p) hp
          omega
        rw [Nat.pow_succ] at h1; omega
      obtain ⟨a, b, c, d⟩ := strip_eq hp f (l / p) hl0 hl1
      refine ⟨?_, b, c, by simpa using d⟩
      show (strip p f (l / p)).2 * p ^ ((strip p f (l / p)).1 + 1) = l
      rw [Nat.pow_succ, ← Nat.mul_assoc, a, Nat.mul_comm]; exact hd
    · rw [if_neg h]
      exact ⟨by simp, h, h0, by omega⟩
def lastF (l : Nat) : List (Nat × Nat) := if 1 < l then [(l, 1)] else []
def facs : Nat → Nat → Nat → List (Nat × Nat)
  | 0, l, _ => lastF l
  | f + 1, l, p => if p * p ≤ l then (if 0 < (strip p 20 l).1 then [(p, (strip p 20 l).1)] else []) ++ facs f (strip p 20 l).2 (p + 1) else lastF l
/-- no divisor from 2 up that is less than m -/
def noDiv (m n : Nat) : Prop := ∀ k, 2 ≤ k → k < m → ¬ k ∣ n
/-- prime, by trying -/
def Pri (p : Nat) : Prop := 2 ≤ p ∧ noDiv p p
theorem noDiv_small {m n : Nat} (h : noDiv m n) (hm : n < m * m) (h2 : 2 ≤ n) : Pri n := by
  refine ⟨h2, fun k k2 kn kd => ?_⟩
  obtain ⟨c, rfl⟩ := kd
  have hk : m ≤ k := by
    rcases Nat.lt_or_ge k m with z | z
    · exact absurd (Nat.dvd_mul_right k c) (h k k2 z)
    · exact z
  have hc2 : 2 ≤ c := by
    rcases Nat.lt_or_ge c 2 with z | z
    · have : k * c ≤ k * 1 := Nat.mul_le_mul_left k (by omega)
      omega
    · exact z
  have hc : m ≤ c := by
    rcases Nat.lt_or_ge c m with z | z
    · exact absurd (Nat.dvd_mul_left c k) (h c hc2 z)
    · exact z
  have := Nat.mul_le_mul hk hc
  omega
theorem pri_of_noDiv {p n : Nat} (hp : 2 ≤ p) (h : noDiv p n) (hd : p ∣ n) : Pri p :=
  ⟨hp, fun k k2 kp kd => h k k2 kp (Nat.dvd_trans kd hd)⟩
def prodF : List (Nat × Nat) → Nat
  | [] => 1
  | (p, e) :: l => p ^ e * prodF l
/-- ascending primes from lo up, exponents of at least 1 -/
def IsF : Nat → List (Nat × Nat) → Prop
  | _, [] => True
  | lo, (p, e) :: l => lo ≤ p ∧ Pri p ∧ 1 ≤ e ∧ e ≤ 20 ∧ IsF (p + 1) l
theorem IsF.mono : ∀ {lo lo' : Nat} {l : List (Nat × Nat)}, lo' ≤ lo → IsF lo l → IsF lo' l
  | _, _, [], _, _ => trivial
  | _, _, (_, _) :: _, h, g => ⟨Nat.le_trans h g.1, g.2⟩
theorem lastF_ok {l p : Nat} (h0 : 0 < l) (hn : noDiv p l) (hp : l < p * p) : IsF p (lastF l) ∧ prodF (lastF l) = l := by
  unfold lastF
  by_cases h : 1 < l
  · rw [if_pos h]
    refine ⟨⟨?_, noDiv_small hn hp h, by omega, by omega, trivial⟩, by simp [prodF]⟩
    rcases Nat.lt_or_ge l p with y | y
    · exact absurd (Nat.dvd_refl l) (hn l h y)
    · exact y
  · rw [if_neg h]
    exact ⟨trivial, by show 1 = l; omega⟩
theorem noDiv_strip {p l e r : Nat} (hn : noDiv p l) (he : r * p ^ e = l) (hr : r % p ≠ 0) : noDiv (p + 1) r := fun k k2 kp kd => by
  rcases Nat.lt_or_ge k p with y | y
  · exact hn k k2 y (he ▸ Nat.dvd_trans kd (Nat.dvd_mul_right r _))
  · have : k = p := by omega
    subst this
    exact hr (Nat.mod_eq_zero_of_dvd kd)
theorem facs_ok : ∀ (f l p : Nat), 0 < l → l < 2 ^ 20 → 2 ≤ p → noDiv p l → 1025 ≤ f + p → IsF p (facs f l p) ∧ prodF (facs f l p) = l
  | 0, l, p, h0, h1, h2, hn, hf => lastF_ok h0 hn (by
      have := Nat.mul_le_mul (show 1025 ≤ p by omega) (show 1025 ≤ p by omega)
      omega)
  | f + 1, l, p, h0, h1, h2, hn, hf => by
    unfold facs
    by_cases hp : p * p ≤ l
    · rw [if_pos hp]
      obtain ⟨a, b, c, d⟩ := strip_eq h2 20 l h0 h1
      have hr : (strip p 20 l).2 ≤ l := by
        have h3 := Nat.mul_le_mul_left (strip p 20 l).2 (Nat.one_le_pow (strip p 20 l).1 p (by omega))
        omega
      obtain ⟨x, y⟩ := facs_ok f (strip p 20 l).2 (p + 1) c (by omega) (by omega) (noDiv_strip hn a b) (by omega)
      by_cases he : 0 < (strip p 20 l).1
      · rw [if_pos he]
        refine ⟨⟨Nat.le_refl _, pri_of_noDiv h2 hn ?_, he, d, x⟩, ?_⟩
        · rw [← a, show (strip p 20 l).1 = ((strip p 20 l).1 - 1) + 1 by omega, Nat.pow_succ, ← Nat.mul_assoc]
          exact Nat.dvd_mul_left _ _
        · show p ^ _ * prodF (facs f _ _) = l
          rw [y, Nat.mul_comm]; exact a
      · rw [if_neg he]
        have e0 : (strip p 20 l).1 = 0 := by omega
        rw [e0] at a
        exact ⟨IsF.mono (by omega) x, by rw [List.nil_append, y]; simpa using a⟩
    · rw [if_neg hp]
      exact lastF_ok h0 hn (by omega)
def facsN (n : Nat) : List (Nat × Nat) := facs 1023 n 2
theorem facsN_ok {n : Nat} (h0 : 0 < n) (h1 : n < 2 ^ 20) : IsF 2 (facsN n) ∧ prodF (facsN n) = n :=
  facs_ok 1023 n 2 h0 h1 (Nat.le_refl _) (fun k k2 k3 => by omega) (by decide)
/-! ### divisors -/
/-- found and layer, e times -/
def layers (p : Nat) : Nat → List Nat → List Nat → List Nat
  | 0, found, _ => found
  | e + 1, found, layer => layers p e (found ++ layer.map (· * p)) (layer.map (· * p))
def divsF : List (Nat × Nat) → List Nat → List Nat
  | [], found => found
  | (p, e) :: l, found => divsF l (layers p e found found)
theorem layers_eq (p : Nat) : ∀ (e : Nat) (found layer : List Nat), layers p e found layer = found ++ (List.range e).flatMap fun k => layer.map (· * p ^ (k + 1))
  | 0, found, layer => by simp [layers]
  | e + 1, found, layer => by
    show layers p e (found ++ layer.map (· * p)) (layer.map (· * p)) = _
    rw [layers_eq p e, List.range_succ_eq_map, List.flatMap_cons, List.flatMap_map, List.append_assoc]
    congr 1
    simp only [Nat.zero_add, Nat.pow_one]
    congr 1
    congr 1
    funext k
    rw [List.map_map]
    congr 1
    funext x
    show x * p * p ^ (k + 1) = x * p ^ (Nat.succ k + 1)
    rw [Nat.mul_assoc, Nat.pow_succ p (Nat.succ k), Nat.mul_comm p]
def IsD (m : Nat) (l : List Nat) : Prop := l.Nodup ∧ ∀ d, d ∈ l ↔ d ∣ m
theorem pri_cop {p a : Nat} (h : Pri p) (ha : ¬ p ∣ a) : Nat.Coprime p a := by
  have hg : Nat.gcd p a ∣ p := Nat.gcd_dvd_left p a
  have h0 : 0 < Nat.gcd p a := Nat.gcd_pos_of_pos_left a (by have := h.1; omega)
  show Nat.gcd p a = 1
  rcases Nat.lt_or_ge (Nat.gcd p a) 2 with z | z
  · omega
  · rcases Nat.lt_or_ge (Nat.gcd p a) p with y | y
    · exact absurd hg (h.2 _ z y)
    · have : Nat.gcd p a = p := Nat.le_antisymm (Nat.le_of_dvd (by have := h.1; omega) hg) y
      exact absurd (this ▸ Nat.gcd_dvd_right p a) ha
/-- a divisor of m p^e is one of m times a power -/
theorem dvd_pow_mul {p m : Nat} (h : Pri p) : ∀ (e d : Nat), d ∣ m * p ^ e ↔ ∃ k, k ≤ e ∧ ∃ c, c ∣ m ∧ d = c * p ^ k
  | 0, d => by
    simp
  | e + 1, d => by
    constructor
    · intro hd
      by_cases hp : p ∣ d
      · obtain ⟨c, rfl⟩ := hp
        have hc : c ∣ m * p ^ e := by
          rw [Nat.pow_succ, ← Nat.mul_assoc, Nat.mul_comm (m * p ^ e) p] at hd
          exact Nat.dvd_of_mul_dvd_mul_left (by have := h.1; omega) hd
        obtain ⟨k, hk, b, hb, rfl⟩ := (dvd_pow_mul h e c).mp hc
        exact ⟨k + 1, by omega, b, hb, by rw [Nat.pow_succ]; simp only [Nat.mul_comm, Nat.mul_left_comm]⟩
      · have cop := pri_cop h hp
        have : d ∣ m * p ^ e := by
          rw [Nat.pow_succ, ← Nat.mul_assoc] at hd
          exact Nat.Coprime.dvd_of_dvd_mul_right (Nat.Coprime.symm cop) hd
        obtain ⟨k, hk, b⟩ := (dvd_pow_mul h e d).mp this
        exact ⟨k, by omega, b⟩
    · rintro ⟨k, hk, c, hc, rfl⟩
      exact Nat.mul_dvd_mul hc (Nat.pow_dvd_pow p hk)
theorem layers_isD {p m e : Nat} {l : List Nat} (hp : Pri p) (hm : ¬ p ∣ m) (h0 : 0 < m) (h : IsD m l) : IsD (m * p ^ e) (layers p e l l) := by
  have hp0 : 0 < p := by have := hp.1; omega
  rw [layers_eq]
  have hnp : ∀ c ∈ l, ¬ p ∣ c := fun c hc z => hm (Nat.dvd_trans z ((h.2 c).mp hc))
  have key : ∀ (a b c d : Nat), a ∈ l → b ∈ l → a * p ^ c = b * p ^ d → c ≤ d → a = b ∧ c = d := fun a b c d ha hb e hcd => by
    obtain ⟨t, rfl⟩ : ∃ t, d = c + t := ⟨d - c, by omega⟩
    rw [Nat.pow_add, Nat.mul_comm (p ^ c), ← Nat.mul_assoc] at e
    have e2 := Nat.eq_of_mul_eq_mul_right (Nat.pow_pos hp0) e
    cases t with
    | zero => simp at e2; exact ⟨e2, rfl⟩
    | succ t =>
      exfalso
      exact hnp a ha (by rw [e2, Nat.pow_succ, ← Nat.mul_assoc]; exact Nat.dvd_mul_left _ _)
  have key2 : ∀ (a b c d : Nat), a ∈ l → b ∈ l → a * p ^ c = b * p ^ d → a = b ∧ c = d := fun a b c d ha hb e => by
    rcases Nat.le_total c d with z | z
    · exact key a b c d ha hb e z
    · obtain ⟨x, y⟩ := key b a d c hb ha e.symm z
      exact ⟨x.symm, y.symm⟩
  have hnd : ∀ k, (l.map (· * p ^ k)).Nodup := fun k => by
    rw [List.nodup_iff_pairwise_ne, List.pairwise_map]
    exact (List.nodup_iff_pairwise_ne.mp h.1).imp fun {a b} z e => z (Nat.eq_of_mul_eq_mul_right (Nat.pow_pos hp0) e)
  constructor
  · rw [List.nodup_append]
    refine ⟨h.1, ?_, ?_⟩
    · rw [List.nodup_iff_pairwise_ne, List.flatMap_def, List.pairwise_flatten]
      refine ⟨fun x hx => ?_, ?_⟩
      · obtain ⟨k, _, rfl⟩ := List.mem_map.mp hx
        exact List.nodup_iff_pairwise_ne.mp (hnd _)
      · rw [List.pairwise_map]
        have := List.nodup_iff_pairwise_ne.mp (List.nodup_range (n := e))
        refine this.imp fun {i j} hij x hx y hy exy => ?_
        obtain ⟨a, ha, rfl⟩ := List.mem_map.mp hx
        obtain ⟨b, hb, rfl⟩ := List.mem_map.mp hy
        have := (key2 a b (i + 1) (j + 1) ha hb exy).2
        omega
    · intro a ha b hb e
      obtain ⟨k, hk, hx⟩ := List.mem_flatMap.mp hb
      obtain ⟨c, hc, rfl⟩ := List.mem_map.mp hx
      have := key2 a c 0 (k + 1) ha hc (by simpa using e)
      omega
  · intro d
    rw [dvd_pow_mul hp, List.mem_append, List.mem_flatMap]
    constructor
    · rintro (z | ⟨k, hk, z⟩)
      · exact ⟨0, by omega, d, (h.2 d).mp z, by simp⟩
      · obtain ⟨c, hc, rfl⟩ := List.mem_map.mp z
        have := List.mem_range.mp hk
        exact ⟨k + 1, by omega, c, (h.2 c).mp hc, rfl⟩
    · rintro ⟨k, hk, c, hc, rfl⟩
      cases k with
      | zero => exact .inl (by simpa using (h.2 c).mpr hc)
      | succ k => exact .inr ⟨k, List.mem_range.mpr (by omega), List.mem_map.mpr ⟨c, (h.2 c).mpr hc, rfl⟩⟩
theorem prodF_pos : ∀ {lo : Nat} {l : List (Nat × Nat)}, IsF lo l → 0 < prodF l
  | _, [], _ => by decide
  | _, (p, e) :: l, h => Nat.mul_pos (Nat.pow_pos (by have := h.2.1.1; omega)) (prodF_pos h.2.2.2.2)
/-- a prime less than lo does not divide -/
theorem divsF_isD : ∀ {l : List (Nat × Nat)} {lo m : Nat} {found : List Nat}, IsF lo l → 0 < m → (∀ q, lo ≤ q → Pri q → ¬ q ∣ m) → IsD m found → IsD (m * prodF l) (divsF l found)
  | [], lo, m, found, _, _, _, h => by simpa [prodF, divsF] using h
  | (p, e) :: l, lo, m, found, hF, h0, hq, h => by
    obtain ⟨a, b, c, d, g⟩ := hF
    have h1 := layers_isD (e := e) b (hq p a b) h0 h
    have := divsF_isD g (Nat.mul_pos h0 (Nat.pow_pos (by have := b.1; omega))) (fun q q1 q2 q3 => ?_) h1
    · show IsD (m * (p ^ e * prodF l)) (divsF l _)
      rw [← Nat.mul_assoc]; exact this
    · obtain ⟨k, hk, x, hx, e2⟩ := (dvd_pow_mul b e q).mp q3
      have hxq : x ∣ q := e2 ▸ Nat.dvd_mul_right x _
      rcases Nat.lt_or_ge x 2 with z | z
      · -- q is a power of p
        have hk0 : k ≠ 0 := fun y => by subst y; simp at e2; have := q2.1; omega
        have : p ∣ q := by rw [e2, show k = (k - 1) + 1 by omega, Nat.pow_succ, ← Nat.mul_assoc]; exact Nat.dvd_mul_left _ _
        exact q2.2 p b.1 (by omega) this
      · rcases Nat.lt_or_ge x q with y | y
        · exact q2.2 x z y hxq
        · have : x = q := Nat.le_antisymm (Nat.le_of_dvd (by have := q2.1; omega) hxq) y
          subst this
          exact hq x (by omega) q2 hx
def divsN (n : Nat) : List Nat := divsF (facsN n) [1]
theorem divsN_ok {n : Nat} (h0 : 0 < n) (h1 : n < 2 ^ 20) : IsD n (divsN n) := by
  obtain ⟨a, b⟩ := facsN_ok h0 h1
  have := divsF_isD (m := 1) (found := [1]) a (by decide) (fun q _ hq z => by have := hq.1; have := Nat.dvd_one.mp z; omega) ⟨by simp, fun d => by simp⟩
  rw [Nat.one_mul, b] at this
  exact this

/-! ### the divisors in a row -/
def lowP (w k : Nat) : Bool := decide (k * k ≤ w) && decide (w % k = 0)
def highP (w k : Nat) : Bool := lowP w k && decide (k * k < w)
def up (a n : Nat) : List Nat := (List.range n).map (· + a)
def lowL (w n : Nat) : List Nat := (up 1 n).filter (lowP w)
def highL (w n : Nat) : List Nat := ((up 1 n).filter (highP w)).reverse.map (w / ·)
theorem up_succ (a n : Nat) : up a (n + 1) = up a n ++ [n + a] := by
  unfold up; rw [List.range_succ, List.map_append]; rfl
theorem lowL_succ (w n : Nat) : lowL w (n + 1) = lowL w n ++ if lowP w (n + 1) = true then [n + 1] else [] := by
  unfold lowL; rw [up_succ, List.filter_append]
  by_cases h : lowP w (n + 1) = true
  · simp [h]
  · simp [h]
theorem highL_succ (w n : Nat) : highL w (n + 1) = (if highP w (n + 1) = true then [w / (n + 1)] else []) ++ highL w n := by
  unfold highL; rw [up_succ, List.filter_append]
  by_cases h : highP w (n + 1) = true
  · simp [h]
  · simp [h]
theorem mem_up {a n x : Nat} : x ∈ up a n ↔ a ≤ x ∧ x < a + n := by
  unfold up
  rw [List.mem_map]
  constructor
  · rintro ⟨y, hy, rfl⟩
    have := List.mem_range.mp hy
    omega
  · rintro ⟨h1, h2⟩
    exact ⟨x - a, List.mem_range.mpr (by omega), by omega⟩
theorem up_lt (a n : Nat) : (up a n).Pairwise (· < ·) := by
  unfold up
  rw [List.pairwise_map]
  exact List.pairwise_lt_range.imp fun h => by omega
theorem mem_low {w n k : Nat} : k ∈ lowL w n ↔ 1 ≤ k ∧ k ≤ n ∧ k * k ≤ w ∧ k ∣ w := by
  unfold lowL lowP
  rw [List.mem_filter, mem_up]
  simp only [Bool.and_eq_true, decide_eq_true_eq, Nat.dvd_iff_mod_eq_zero]
  omega
theorem mem_high {w n d : Nat} : d ∈ highL w n ↔ ∃ k, 1 ≤ k ∧ k ≤ n ∧ k * k < w ∧ k ∣ w ∧ d = w / k := by
  unfold highL highP lowP
  rw [List.mem_map]
  constructor
  · rintro ⟨k, hk, rfl⟩
    rw [List.mem_reverse, List.mem_filter, mem_up] at hk
    simp only [Bool.and_eq_true, decide_eq_true_eq, ← Nat.dvd_iff_mod_eq_zero] at hk
    exact ⟨k, by omega, by omega, hk.2.2, hk.2.1.2, rfl⟩
  · rintro ⟨k, h1, h2, h3, h4, rfl⟩
    refine ⟨k, ?_, rfl⟩
    rw [List.mem_reverse, List.mem_filter, mem_up]
    simp only [Bool.and_eq_true, decide_eq_true_eq, ← Nat.dvd_iff_mod_eq_zero]
    exact ⟨by omega, ⟨by omega, h4⟩, h3⟩
theorem row_lt {w n : Nat} (h0 : 0 < w) : (lowL w n ++ highL w n).Pairwise (· < ·) := by
  rw [List.pairwise_append]
  refine ⟨(up_lt 1 n).filter _, ?_, fun a ha b hb => ?_⟩
  · unfold highL
    rw [List.pairwise_map, List.pairwise_reverse]
    refine ((up_lt 1 n).filter _).imp_of_mem fun {a b} ha hb hab => ?_
    rw [List.mem_filter, mem_up] at ha hb
    unfold highP lowP at ha hb
    simp only [Bool.and_eq_true, decide_eq_true_eq, ← Nat.dvd_iff_mod_eq_zero] at ha hb
    obtain ⟨c, hc⟩ := ha.2.1.2
    obtain ⟨d, hd⟩ := hb.2.1.2
    have ha1 : 0 < a := by omega
    have hb1 : 0 < b := by omega
    have e1 : w / a = c := by rw [hc]; exact Nat.mul_div_cancel_left c ha1
    have e2 : w / b = d := by rw [hd]; exact Nat.mul_div_cancel_left d hb1
    rw [e1, e2]
    rcases Nat.lt_or_ge d c with z | z
    · exact z
    · have h1 := Nat.mul_le_mul_left a z
      have h2 : a * d < b * d := Nat.mul_lt_mul_of_pos_right hab (by
        rcases Nat.eq_zero_or_pos d with y | y
        · rw [y] at hd; omega
        · exact y)
      omega
  · obtain ⟨a1, a2, a3, a4⟩ := mem_low.mp ha
    obtain ⟨k, k1, k2, k3, k4, rfl⟩ := mem_high.mp hb
    obtain ⟨c, hc⟩ := k4
    have e1 : w / k = c := by rw [hc]; exact Nat.mul_div_cancel_left c k1
    rw [e1]
    rcases Nat.lt_or_ge a c with z | z
    · exact z
    · have h1 : k < c := by
        rcases Nat.lt_or_ge k c with y | y
        · exact y
        · have := Nat.mul_le_mul_left k y
          omega
      have h2 := Nat.mul_le_mul z z
      have h3 : k * c < c * c := Nat.mul_lt_mul_of_pos_right h1 (by omega)
      omega
theorem row_mem {w d : Nat} (h0 : 0 < w) (h1 : w ≤ 1000000) : d ∈ lowL w 1000 ++ highL w 1000 ↔ d ∣ w := by
  rw [List.mem_append, mem_low, mem_high]
  constructor
  · rintro (⟨_, _, _, h⟩ | ⟨k, _, _, _, ⟨c, rfl⟩, rfl⟩)
    · exact h
    · rw [Nat.mul_div_cancel_left c (by omega)]; exact Nat.dvd_mul_left c k
  · intro h
    have hd0 : 0 < d := Nat.pos_of_dvd_of_pos h h0
    by_cases hs : d * d ≤ w
    · refine .inl ⟨hd0, ?_, hs, h⟩
      rcases Nat.lt_or_ge 1000 d with y | y
      · have := Nat.mul_le_mul (show 1001 ≤ d by omega) (show 1001 ≤ d by omega); omega
      · exact y
    · obtain ⟨c, hc⟩ := h
      have hc0 : 0 < c := by
        rcases Nat.eq_zero_or_pos c with y | y
        · rw [y] at hc; omega
        · exact y
      have hcd : c < d := by
        rcases Nat.lt_or_ge c d with y | y
        · exact y
        · have := Nat.mul_le_mul_left d y; omega
      have hcc : c * c < w := by
        have : c * c < d * c := Nat.mul_lt_mul_of_pos_right hcd hc0
        omega
      refine .inr ⟨c, hc0, ?_, hcc, ⟨d, by rw [Nat.mul_comm]; exact hc⟩, by rw [hc]; exact (Nat.mul_div_cancel d hc0).symm⟩
      rcases Nat.lt_or_ge 1000 c with y | y
      · have := Nat.mul_le_mul (show 1001 ≤ c by omega) (show 1001 ≤ c by omega); omega
      · exact y
/-- the sorted divisors -/
theorem row_sorted {w : Nat} (h0 : 0 < w) (h1 : w ≤ 1000000) {ns : List Nat} (hp : ns.Perm (divsN w)) (hs : ns.Pairwise (· ≤ ·)) : ns = lowL w 1000 ++ highL w 1000 := by
  have hD := divsN_ok h0 (by omega : w < 2 ^ 20)
  have hl := row_lt (n := 1000) h0
  have hp2 : (divsN w).Perm (lowL w 1000 ++ highL w 1000) := by
    rw [List.perm_ext_iff_of_nodup hD.1 (List.nodup_iff_pairwise_ne.mpr (hl.imp fun h => by omega))]
    intro d
    rw [hD.2, row_mem h0 h1]
  exact (hp.trans hp2).eq_of_pairwise (le := (· ≤ ·)) (fun a b _ _ x y => Nat.le_antisymm x y) hs (hl.imp fun h => Nat.le_of_lt h)
/-! ### units -/
def unitsN (n : Nat) : Nat := (facsN n).foldl (fun u x => u / x.1 * (x.1 - 1)) n
def freeN (w : Nat) : Nat := (List.range w).countP fun i => Nat.gcd i w == 1
theorem units_all : ∀ w, w < 401 → 1 ≤ w → unitsN w = freeN w := by
  have h : ∀ w, w < 401 → (1 ≤ w → unitsN w = freeN w) := by decide +kernel
  exact h
theorem units_known : unitsN 1 = 1 ∧ unitsN 2 = 1 ∧ unitsN 4 = 2 ∧ unitsN 524288 = 262144 ∧ unitsN 994009 = 993012 ∧ unitsN 999983 = 999982 ∧ unitsN 999999 = 466560 ∧ unitsN 1000000 = 400000 ∧ unitsN 510510 = 92160 ∧ unitsN 531441 = 354294 ∧ unitsN 720720 = 138240 ∧ unitsN 823543 = 705894 := by
  decide +kernel
/-! ### primes by trying -/
/-- is_prime's loop -/
def triedB (n : Nat) : Nat → Nat → Bool
  | 0, _ => true
  | f + 1, d => if d * d ≤ n then (if n % d = 0 then false else triedB n f (d + 1)) else true
def priB (n : Nat) : Bool := decide (2 ≤ n) && triedB n 1000 2
end K01

namespace K01
open PySem L2 Pl
def top (i : Nat) : Stmt := PySem.Challenge.pw_wheelwritten_k01_whole_arithmetic.main.body.getD i (.Pass ⟨0, 0, 0, 0⟩)
abbrev s_is_integer : Stmt := top 8
abbrev s_is_number : Stmt := top 9
abbrev s_need : Stmt := top 11
abbrev s_gcd_of : Stmt := top 13
abbrev s_lcm_of : Stmt := top 14
abbrev s_turns_of : Stmt := top 15
abbrev s_inverse_of : Stmt := top 16
abbrev s_product_of : Stmt := top 17
abbrev s_factors_of : Stmt := top 19
abbrev s_divisors_of : Stmt := top 20
abbrev s_how_many_units : Stmt := top 21
abbrev s_exponent_in : Stmt := top 22
abbrev s_is_prime : Stmt := top 23
abbrev s__law_draw : Stmt := top 25
abbrev s__law_great : Stmt := top 26
abbrev s__law_whole : Stmt := top 27
abbrev s__law_is : Stmt := top 28
abbrev s__law_row : Stmt := top 29
abbrev s__law_tried : Stmt := top 30
abbrev s__law_common : Stmt := top 31
abbrev s__law_asked : Stmt := top 32
abbrev s__law_refused : Stmt := top 33
abbrev s__law_odd : Stmt := top 34
abbrev s__law_pairs : Stmt := top 35
abbrev s__law_small : Stmt := top 36
abbrev s__law_of_number : Stmt := top 37
abbrev s__law_units : Stmt := top 38
abbrev s__law_powers : Stmt := top 39
abbrev s_law : Stmt := top 40
/-- what the written part says -/
structure Tk (P : Program) (K : Fr) (mg : Str → Option Value) : Prop where
  n_ValueError : mg "ValueError" = none
  n_tuple : mg "tuple" = none
  n_range : mg "range" = none
  n_sum : mg "sum" = none
  n_isinstance : mg "isinstance" = none
  n_int : mg "int" = none
  n_sorted : mg "sorted" = none
  n_len : mg "len" = none
  n_str : mg "str" = none
  n_bool : mg "bool" = none
  n_super : mg "super" = none
  g_is_integer : mg "is_integer" = some (.ref (He.ga K "is_integer"))
  f_is_integer : ∃ fd, Fun K "is_integer" "is_integer" s_is_integer (He.ga K "is_integer") fd
  g_is_number : mg "is_number" = some (.ref (He.ga K "is_number"))
  f_is_number : ∃ fd, Fun K "is_number" "is_number" s_is_number (He.ga K "is_number") fd
  g_need : mg "need" = some (.ref (He.ga K "need"))
  f_need : ∃ fd, Fun K "need" "need" s_need (He.ga K "need") fd
  g_gcd_of : mg "gcd_of" = some (.ref (He.ga K "gcd_of"))
  f_gcd_of : ∃ fd, Fun K "gcd_of" "gcd_of" s_gcd_of (He.ga K "gcd_of") fd
  g_lcm_of : mg "lcm_of" = some (.ref (He.ga K "lcm_of"))
  f_lcm_of : ∃ fd, Fun K "lcm_of" "lcm_of" s_lcm_of (He.ga K "lcm_of") fd
  g_turns_of : mg "turns_of" = some (.ref (He.ga K "turns_of"))
  f_turns_of : ∃ fd, Fun K "turns_of" "turns_of" s_turns_of (He.ga K "turns_of") fd
  g_inverse_of : mg "inverse_of" = some (.ref (He.ga K "inverse_of"))
  f_inverse_of : ∃ fd, Fun K "inverse_of" "inverse_of" s_inverse_of (He.ga K "inverse_of") fd
  g_product_of : mg "product_of" = some (.ref (He.ga K "product_of"))
  f_product_of : ∃ fd, Fun K "product_of" "product_of" s_product_of (He.ga K "product_of") fd
  g_factors_of : mg "factors_of" = some (.ref (He.ga K "factors_of"))
  f_factors_of : ∃ fd, Fun K "factors_of" "factors_of" s_factors_of (He.ga K "factors_of") fd
  g_divisors_of : mg "divisors_of" = some (.ref (He.ga K "divisors_of"))
  f_divisors_of : ∃ fd, Fun K "divisors_of" "divisors_of" s_divisors_of (He.ga K "divisors_of") fd
  g_how_many_units : mg "how_many_units" = some (.ref (He.ga K "how_many_units"))
  f_how_many_units : ∃ fd, Fun K "how_many_units" "how_many_units" s_how_many_units (He.ga K "how_many_units") fd
  g_exponent_in : mg "exponent_in" = some (.ref (He.ga K "exponent_in"))
  f_exponent_in : ∃ fd, Fun K "exponent_in" "exponent_in" s_exponent_in (He.ga K "exponent_in") fd
  g_is_prime : mg "is_prime" = some (.ref (He.ga K "is_prime"))
  f_is_prime : ∃ fd, Fun K "is_prime" "is_prime" s_is_prime (He.ga K "is_prime") fd
  g__law_draw : mg "_law_draw" = some (.ref (He.ga K "_law_draw"))
  f__law_draw : ∃ fd, Fun K "_law_draw" "_law_draw" s__law_draw (He.ga K "_law_draw") fd
  g__law_great : mg "_law_great" = some (.ref (He.ga K "_law_great"))
  f__law_great : ∃ fd, Fun K "_law_great" "_law_great" s__law_great (He.ga K "_law_great") fd
  g__law_whole : mg "_law_whole" = some (.ref (He.ga K "_law_whole"))
  f__law_whole : ∃ fd, Fun K "_law_whole" "_law_whole" s__law_whole (He.ga K "_law_whole") fd
  g__law_is : mg "_law_is" = some (.ref (He.ga K "_law_is"))
  f__law_is : ∃ fd, Fun K "_law_is" "_law_is" s__law_is (He.ga K "_law_is") fd
  g__law_row : mg "_law_row" = some (.ref (He.ga K "_law_row"))
  f__law_row : ∃ fd, Fun K "_law_row" "_law_row" s__law_row (He.ga K "_law_row") fd
  g__law_tried : mg "_law_tried" = some (.ref (He.ga K "_law_tried"))
  f__law_tried : ∃ fd, Fun K "_law_tried" "_law_tried" s__law_tried (He.ga K "_law_tried") fd
  g__law_common : mg "_law_common" = some (.ref (He.ga K "_law_common"))
  f__law_common : ∃ fd, Fun K "_law_common" "_law_common" s__law_common (He.ga K "_law_common") fd
  g__law_asked : mg "_law_asked" = some (.ref (He.ga K "_law_asked"))
  f__law_asked : ∃ fd, Fun K "_law_asked" "_law_asked" s__law_asked (He.ga K "_law_asked") fd
  g__law_refused : mg "_law_refused" = some (.ref (He.ga K "_law_refused"))
  f__law_refused : ∃ fd, Fun K "_law_refused" "_law_refused" s__law_refused (He.ga K "_law_refused") fd
  g__law_odd : mg "_law_odd" = some (.ref (He.ga K "_law_odd"))
  f__law_odd : ∃ fd, Fun K "_law_odd" "_law_odd" s__law_odd (He.ga K "_law_odd") fd
  g__law_pairs : mg "_law_pairs" = some (.ref (He.ga K "_law_pairs"))
  f__law_pairs : ∃ fd, Fun K "_law_pairs" "_law_pairs" s__law_pairs (He.ga K "_law_pairs") fd
  g__law_small : mg "_law_small" = some (.ref (He.ga K "_law_small"))
  f__law_small : ∃ fd, Fun K "_law_small" "_law_small" s__law_small (He.ga K "_law_small") fd
  g__law_of_number : mg "_law_of_number" = some (.ref (He.ga K "_law_of_number"))
  f__law_of_number : ∃ fd, Fun K "_law_of_number" "_law_of_number" s__law_of_number (He.ga K "_law_of_number") fd
  g__law_units : mg "_law_units" = some (.ref (He.ga K "_law_units"))
  f__law_units : ∃ fd, Fun K "_law_units" "_law_units" s__law_units (He.ga K "_law_units") fd
  g__law_powers : mg "_law_powers" = some (.ref (He.ga K "_law_powers"))
  f__law_powers : ∃ fd, Fun K "_law_powers" "_law_powers" s__law_powers (He.ga K "_law_powers") fd
  g_law : mg "law" = some (.ref (He.ga K "law"))
  f_law : ∃ fd, Fun K "law" "law" s_law (He.ga K "law") fd
  g_WheelError : mg "WheelError" = some (.ref (He.ga K "WheelError"))
  g_PaperError : mg "PaperError" = some (.ref (He.ga K "PaperError"))
  g_BoardError : mg "BoardError" = some (.ref (He.ga K "BoardError"))
  g_LiveError : mg "LiveError" = some (.ref (He.ga K "LiveError"))
  g_TextError : mg "TextError" = some (.ref (He.ga K "TextError"))
  g_NotUsable : mg "NotUsable" = some (.ref (He.ga K "NotUsable"))
  x_NotUsable : PySem.XSup.Txt P K (He.ga K "NotUsable") (He.ma K (He.ga K "NotUsable") "__init__") "NotUsable"
  xf : XfC K (He.ga K "NotUsable")
  ec : ExcC K (He.ga K "NotUsable")
  nw : PySem.W.findIn K (.ref (He.ga K "NotUsable")) "word" = some none
  na : PySem.W.findIn K (.ref (He.ga K "NotUsable")) "at" = some none
  i1 : PySem.W.kitOne K (.ref (He.ga K "NotUsable")) (.ref (He.ga K "BoardError")) = some true
  i2 : PySem.W.kitOne K (.ref (He.ga K "NotUsable")) (.ref (He.ga K "WheelError")) = some true
  i3 : PySem.W.kitOne K (.ref (He.ga K "NotUsable")) (.type "ValueError") = some true
  i4 : PySem.W.kitOne K (.ref (He.ga K "NotUsable")) (.ref (He.ga K "PaperError")) = some false
  i5 : PySem.W.kitOne K (.ref (He.ga K "NotUsable")) (.ref (He.ga K "LiveError")) = some false
  i6 : PySem.W.kitOne K (.ref (He.ga K "NotUsable")) (.ref (He.ga K "TextError")) = some false
  em : PySem.W.exmOne K (.ref (He.ga K "NotUsable")) (.ref (He.ga K "NotUsable")) = some true
theorem kb_gcd_of_0 {K : Fr} {fd : FuncData} (F : Fun K "gcd_of" "gcd_of" s_gcd_of (He.ga K "gcd_of") fd) : KB K fd ["many", "other"] ["other", "many"] 0 [1, 0] := by
  obtain ⟨oc, od, kV, doc, pm, an, cdv, ct, osl, rfl, lk, hcd⟩ := F.ex
  exact ⟨fun s us ws _ h1 h2 => match us, ws, h1, h2 with | [], [_, _], _, _ => .of_eq (by first | rfl | with_unfolding_all rfl)⟩
theorem kb_lcm_of_0 {K : Fr} {fd : FuncData} (F : Fun K "lcm_of" "lcm_of" s_lcm_of (He.ga K "lcm_of") fd) : KB K fd ["many", "other"] ["other", "many"] 0 [1, 0] := by
  obtain ⟨oc, od, kV, doc, pm, an, cdv, ct, osl, rfl, lk, hcd⟩ := F.ex
  exact ⟨fun s us ws _ h1 h2 => match us, ws, h1, h2 with | [], [_, _], _, _ => .of_eq (by first | rfl | with_unfolding_all rfl)⟩
theorem kb_turns_of_0 {K : Fr} {fd : FuncData} (F : Fun K "turns_of" "turns_of" s_turns_of (He.ga K "turns_of") fd) : KB K fd ["wheel", "place"] ["place", "wheel"] 0 [1, 0] := by
  obtain ⟨oc, od, kV, doc, pm, an, cdv, ct, osl, rfl, lk, hcd⟩ := F.ex
  exact ⟨fun s us ws _ h1 h2 => match us, ws, h1, h2 with | [], [_, _], _, _ => .of_eq (by first | rfl | with_unfolding_all rfl)⟩
theorem kb_inverse_of_0 {K : Fr} {fd : FuncData} (F : Fun K "inverse_of" "inverse_of" s_inverse_of (He.ga K "inverse_of") fd) : KB K fd ["wheel", "place"] ["place", "wheel"] 0 [1, 0] := by
  obtain ⟨oc, od, kV, doc, pm, an, cdv, ct, osl, rfl, lk, hcd⟩ := F.ex
  exact ⟨fun s us ws _ h1 h2 => match us, ws, h1, h2 with | [], [_, _], _, _ => .of_eq (by first | rfl | with_unfolding_all rfl)⟩
theorem kb_exponent_in_0 {K : Fr} {fd : FuncData} (F : Fun K "exponent_in" "exponent_in" s_exponent_in (He.ga K "exponent_in") fd) : KB K fd ["many", "prime"] ["prime", "many"] 0 [1, 0] := by
  obtain ⟨oc, od, kV, doc, pm, an, cdv, ct, osl, rfl, lk, hcd⟩ := F.ex
  exact ⟨fun s us ws _ h1 h2 => match us, ws, h1, h2 with | [], [_, _], _, _ => .of_eq (by first | rfl | with_unfolding_all rfl)⟩
theorem kb_factors_of_0 {K : Fr} {fd : FuncData} (F : Fun K "factors_of" "factors_of" s_factors_of (He.ga K "factors_of") fd) : KB K fd ["many"] ["many"] 0 [0] := by
  obtain ⟨oc, od, kV, doc, pm, an, cdv, ct, osl, rfl, lk, hcd⟩ := F.ex
  exact ⟨fun s us ws _ h1 h2 => match us, ws, h1, h2 with | [], [_], _, _ => .of_eq (by first | rfl | with_unfolding_all rfl)⟩
theorem kb_divisors_of_0 {K : Fr} {fd : FuncData} (F : Fun K "divisors_of" "divisors_of" s_divisors_of (He.ga K "divisors_of") fd) : KB K fd ["many"] ["many"] 0 [0] := by
  obtain ⟨oc, od, kV, doc, pm, an, cdv, ct, osl, rfl, lk, hcd⟩ := F.ex
  exact ⟨fun s us ws _ h1 h2 => match us, ws, h1, h2 with | [], [_], _, _ => .of_eq (by first | rfl | with_unfolding_all rfl)⟩
theorem kb_how_many_units_0 {K : Fr} {fd : FuncData} (F : Fun K "how_many_units" "how_many_units" s_how_many_units (He.ga K "how_many_units") fd) : KB K fd ["many"] ["many"] 0 [0] := by
  obtain ⟨oc, od, kV, doc, pm, an, cdv, ct, osl, rfl, lk, hcd⟩ := F.ex
  exact ⟨fun s us ws _ h1 h2 => match us, ws, h1, h2 with | [], [_], _, _ => .of_eq (by first | rfl | with_unfolding_all rfl)⟩
theorem kb_is_prime_0 {K : Fr} {fd : FuncData} (F : Fun K "is_prime" "is_prime" s_is_prime (He.ga K "is_prime") fd) : KB K fd ["thing"] ["thing"] 0 [0] := by
  obtain ⟨oc, od, kV, doc, pm, an, cdv, ct, osl, rfl, lk, hcd⟩ := F.ex
  exact ⟨fun s us ws _ h1 h2 => match us, ws, h1, h2 with | [], [_], _, _ => .of_eq (by first | rfl | with_unfolding_all rfl)⟩
theorem kb_product_of_0 {K : Fr} {fd : FuncData} (F : Fun K "product_of" "product_of" s_product_of (He.ga K "product_of") fd) : KB K fd ["ranges"] ["ranges"] 0 [0] := by
  obtain ⟨oc, od, kV, doc, pm, an, cdv, ct, osl, rfl, lk, hcd⟩ := F.ex
  exact ⟨fun s us ws _ h1 h2 => match us, ws, h1, h2 with | [], [_], _, _ => .of_eq (by first | rfl | with_unfolding_all rfl)⟩
variable {P : Program} {w : World} {K : Fr} {mg : Str → Option Value} {base : Heap}
theorem sc_is_integer : FnScope ["thing"] ["thing"] (defScope s_is_integer) := ⟨rfl, rfl, rfl, by decide +kernel, rfl, by decide +kernel, by decide +kernel⟩
def isI : D → Bool
  | .int _ => true
  | _ => false
def fn_is_integer : Fn := fun as P _ => ∃ x, as = [.d x] ∧ P (.d (.bool (isI x)))
theorem has_is_integer (T : Tk P K mg) : ∃ fd, Has P w K mg base 1 "is_integer" s_is_integer ["thing"] fn_is_integer fd := by
  obtain ⟨fd, F⟩ := T.f_is_integer
  have hb := F.binds (ps := ["thing"]) fun _ _ _ _ _ _ us hl => match us, hl with | [_], _ => rfl
  refine ⟨fd, T.g_is_integer, F.kp, F, hb, fnD F sc_is_integer (by decide) fun cdv A outer s H E hr => ⟨_, _, (dss_one (ds_ret false (de_andk (KK := K) (de_isk (KK := K) .int (dv 0) rfl T.n_isinstance bt_isi rfl T.n_int bt_int) (de_one (de_notk (KK := K) (de_isk (KK := K) .bool (dv 0) rfl T.n_isinstance bt_isi rfl T.n_bool bt_bool)))))), ?_⟩⟩
  rintro as Q PX hl ⟨x, rfl, h⟩
  cases x <;> simp [vw_jk, at_0, at_1, at_2, at_3, at_4, ix_40, ix_41, ix_42, ix_43, boolsD_comp, intsD_comp, sh_int, sh_bool, sh_none, sh_str, ev_int, ev_bool, ev_str, ev_none, ev_ni, ev_in, uIfS, evT, ev, uRet, uRetO, uRetN, uDrop, uSet, uSetO, uMove, uFrz, uNext, uBreak, uCont, uApp, uIns, uPut, uPutA, uAug, uRaise, uVar, uC, uOp, uUn, uTru, uTst, uNot, uAnd, uOr, uAndV, uOrV, uNotV, uIf, uNil, uCons, argU, uTup, uLst, allD, onDs, onD, onT, onBool, oI, oIC, oAdd, oEq, oIsN, isN_none, isN_int, isN_bool, isN_str, isN_list, isN_tup, truD, oIx, uSl, uPart, uNoP, oSl, uCB, oLen, oList, oTuple, oInt, oAbs, oAll, oAny, oSum, onB, onI, uIs, uIs2, isT, uCall, uCallP, pick, vw, vw1, okU, okX, nolU, nol, nols, startU, kOf, kQ, kT, onL, uSeqI, uRng1, uRng2, rOk, uEnum, uRep, uTupRev, uYes, ugN, ugT2, wipeU, setU, uIfQ, uRetQ, uSetQ, uPutQ, ixC, uPar, uAsgT, uChain, uCall0, sizeLine_eq, oMax2, oSortI, oStrI, oIsB, szD, List.map_cons, List.map_nil, List.length_cons, List.length_nil, List.replicate, List.cons_append, List.nil_append, List.getElem?_cons_zero, List.getElem?_cons_succ, List.set_cons_zero, List.set_cons_succ, Option.map_some, Option.map_none, List.getD, Option.getD_some, if_true, true_and, and_true, Nat.reduceAdd, Nat.reduceSub, reduceIte, Bool.false_eq_true, Bool.not_true, Bool.not_false] <;> exact h
theorem sc_is_number : FnScope ["thing"] ["thing"] (defScope s_is_number) := ⟨rfl, rfl, rfl, by decide +kernel, rfl, by decide +kernel, by decide +kernel⟩
def isNb : D → Bool
  | .int i => decide (0 ≤ i)
  | _ => false
def fn_is_number : Fn := fun as P _ => ∃ x, as = [.d x] ∧ P (.d (.bool (isNb x)))
theorem has_is_number (T : Tk P K mg) {fd_is_integer : FuncData} (h_is_integer : Has P w K mg base 1 "is_integer" s_is_integer ["thing"] fn_is_integer fd_is_integer) : ∃ fd, Has P w K mg base 2 "is_number" s_is_number ["thing"] fn_is_number fd := by
  obtain ⟨fd, F⟩ := T.f_is_number
  have hb := F.binds (ps := ["thing"]) fun _ _ _ _ _ _ us hl => match us, hl with | [_], _ => rfl
  refine ⟨fd, T.g_is_number, F.kp, F, hb, fnD F sc_is_number (by decide) fun cdv A outer s H E hr => ⟨_, _, (dss_one (ds_ret false (de_andk (KK := K) (de_own h_is_integer ⟨rfl, rfl, rfl, rfl, rfl⟩ (hr.mono (by decide)) rfl airD (da_cons (dv 0) da_nil)) (de_one (de_cmp do_ge (dv 0) de_int))))), ?_⟩⟩
  rintro as Q PX hl ⟨x, rfl, h⟩
  cases x <;> simp [vw_jk, at_0, at_1, at_2, at_3, at_4, ix_40, ix_41, ix_42, ix_43, boolsD_comp, intsD_comp, sh_int, sh_bool, sh_none, sh_str, ev_int, ev_bool, ev_str, ev_none, ev_ni, ev_in, uIfS, evT, ev, uRet, uRetO, uRetN, uDrop, uSet, uSetO, uMove, uFrz, uNext, uBreak, uCont, uApp, uIns, uPut, uPutA, uAug, uRaise, uVar, uC, uOp, uUn, uTru, uTst, uNot, uAnd, uOr, uAndV, uOrV, uNotV, uIf, uNil, uCons, argU, uTup, uLst, allD, onDs, onD, onT, onBool, oI, oIC, oAdd, oEq, oIsN, isN_none, isN_int, isN_bool, isN_str, isN_list, isN_tup, truD, oIx, uSl, uPart, uNoP, oSl, uCB, oLen, oList, oTuple, oInt, oAbs, oAll, oAny, oSum, onB, onI, uIs, uIs2, isT, uCall, uCallP, pick, vw, vw1, okU, okX, nolU, nol, nols, startU, kOf, kQ, kT, onL, uSeqI, uRng1, uRng2, rOk, uEnum, uRep, uTupRev, uYes, ugN, ugT2, wipeU, setU, uIfQ, uRetQ, uSetQ, uPutQ, ixC, uPar, uAsgT, uChain, uCall0, sizeLine_eq, oMax2, oSortI, oStrI, oIsB, szD, List.map_cons, List.map_nil, List.length_cons, List.length_nil, List.replicate, List.cons_append, List.nil_append, List.getElem?_cons_zero, List.getElem?_cons_succ, List.set_cons_zero, List.set_cons_succ, Option.map_some, Option.map_none, List.getD, Option.getD_some, if_true, true_and, and_true, Nat.reduceAdd, Nat.reduceSub, reduceIte, Bool.false_eq_true, Bool.not_true, Bool.not_false, fn_is_integer, isI] <;> exact h
theorem sc_need : FnScope ["good", "word"] ["good", "word"] (defScope s_need) := ⟨rfl, rfl, rfl, by decide +kernel, rfl, by decide +kernel, by decide +kernel⟩
def fn_need (K : Fr) : Fn := fun as P PX => ∃ (g : Bool) (nm : Str), as = [.d (.bool g), .d (.str nm)] ∧ (g = true → P (.d .none)) ∧ (g = false → PX (refused K nm))
theorem need_iff {K : Fr} {g : Bool} {nm : Str} {P : U → Prop} {PX : Ex → Prop} : fn_need K [.d (.bool g), .d (.str nm)] P PX ↔ (g = true → P (.d .none)) ∧ (g = false → PX (refused K nm)) := by
  constructor
  · rintro ⟨g', nm', e, h⟩
    cases e; exact h
  · intro h; exact ⟨g, nm, rfl, h⟩
theorem num_iff {x : D} {P : U → Prop} {PX : Ex → Prop} : fn_is_number [.d x] P PX ↔ P (.d (.bool (isNb x))) := by
  constructor
  · rintro ⟨x', e, h⟩
    cases e; exact h
  · intro h; exact ⟨x, rfl, h⟩
theorem int_iff {x : D} {P : U → Prop} {PX : Ex → Prop} : fn_is_integer [.d x] P PX ↔ P (.d (.bool (isI x))) := by
  constructor
  · rintro ⟨x', e, h⟩
    cases e; exact h
  · intro h; exact ⟨x, rfl, h⟩
theorem isNb_nat {y : D} (h : isNb y = true) : ∃ b : Nat, y = .int b := by
  cases y <;> simp [isNb] at h
  next i => exact ⟨i.toNat, by rw [Int.toNat_of_nonneg h]⟩
theorem has_need (T : Tk P K mg) : ∃ fd, Has P w K mg base 3 "need" s_need ["good", "word"] (fn_need K) fd := by
  obtain ⟨fd, F⟩ := T.f_need
  have hb := F.binds (ps := ["good", "word"]) fun _ _ _ _ _ _ us hl => match us, hl with | [_, _], _ => rfl
  refine ⟨fd, T.g_need, F.kp, F, hb, fnD F sc_need (by decide) fun cdv A outer s H E hr => ⟨_, _, (dss_one (ds_if false (dt_not (dt_truk (KK := K) (dv 0))) (dss_one (ds_raise rfl T.x_NotUsable T.g_NotUsable T.n_super (k := 0) (hr.mono (by decide)) tkD (da_cons (dv 1) (da_cons (de_un du_neg de_int) da_nil)) rfl)) dss_nil)), ?_⟩⟩
  rintro as Q PX hl ⟨g, nm, rfl, h1, h2⟩
  have h2' : g = false → PX ⟨He.ga K "NotUsable", [(("at" : Str), .int (-1)), (("word" : Str), .str nm)]⟩ := h2
  cases g
  · simp [vw_jk, at_0, at_1, at_2, at_3, at_4, ix_40, ix_41, ix_42, ix_43, boolsD_comp, intsD_comp, sh_int, sh_bool, sh_none, sh_str, ev_int, ev_bool, ev_str, ev_none, ev_ni, ev_in, uIfS, evT, ev, uRet, uRetO, uRetN, uDrop, uSet, uSetO, uMove, uFrz, uNext, uBreak, uCont, uApp, uIns, uPut, uPutA, uAug, uRaise, uVar, uC, uOp, uUn, uTru, uTst, uNot, uAnd, uOr, uAndV, uOrV, uNotV, uIf, uNil, uCons, argU, uTup, uLst, allD, onDs, onD, onT, onBool, oI, oIC, oAdd, oEq, oIsN, isN_none, isN_int, isN_bool, isN_str, isN_list, isN_tup, truD, oIx, uSl, uPart, uNoP, oSl, uCB, oLen, oList, oTuple, oInt, oAbs, oAll, oAny, oSum, onB, onI, uIs, uIs2, isT, uCall, uCallP, pick, vw, vw1, okU, okX, nolU, nol, nols, startU, kOf, kQ, kT, onL, uSeqI, uRng1, uRng2, rOk, uEnum, uRep, uTupRev, uYes, ugN, ugT2, wipeU, setU, uIfQ, uRetQ, uSetQ, uPutQ, ixC, uPar, uAsgT, uChain, uCall0, sizeLine_eq, oMax2, oSortI, oStrI, oIsB, szD, List.map_cons, List.map_nil, List.length_cons, List.length_nil, List.replicate, List.cons_append, List.nil_append, List.getElem?_cons_zero, List.getElem?_cons_succ, List.set_cons_zero, List.set_cons_succ, Option.map_some, Option.map_none, List.getD, Option.getD_some, if_true, true_and, and_true, Nat.reduceAdd, Nat.reduceSub, reduceIte, Bool.false_eq_true, Bool.not_true, Bool.not_false]
    exact h2' rfl
  · simp [vw_jk, at_0, at_1, at_2, at_3, at_4, ix_40, ix_41, ix_42, ix_43, boolsD_comp, intsD_comp, sh_int, sh_bool, sh_none, sh_str, ev_int, ev_bool, ev_str, ev_none, ev_ni, ev_in, uIfS, evT, ev, uRet, uRetO, uRetN, uDrop, uSet, uSetO, uMove, uFrz, uNext, uBreak, uCont, uApp, uIns, uPut, uPutA, uAug, uRaise, uVar, uC, uOp, uUn, uTru, uTst, uNot, uAnd, uOr, uAndV, uOrV, uNotV, uIf, uNil, uCons, argU, uTup, uLst, allD, onDs, onD, onT, onBool, oI, oIC, oAdd, oEq, oIsN, isN_none, isN_int, isN_bool, isN_str, isN_list, isN_tup, truD, oIx, uSl, uPart, uNoP, oSl, uCB, oLen, oList, oTuple, oInt, oAbs, oAll, oAny, oSum, onB, onI, uIs, uIs2, isT, uCall, uCallP, pick, vw, vw1, okU, okX, nolU, nol, nols, startU, kOf, kQ, kT, onL, uSeqI, uRng1, uRng2, rOk, uEnum, uRep, uTupRev, uYes, ugN, ugT2, wipeU, setU, uIfQ, uRetQ, uSetQ, uPutQ, ixC, uPar, uAsgT, uChain, uCall0, sizeLine_eq, oMax2, oSortI, oStrI, oIsB, szD, List.map_cons, List.map_nil, List.length_cons, List.length_nil, List.replicate, List.cons_append, List.nil_append, List.getElem?_cons_zero, List.getElem?_cons_succ, List.set_cons_zero, List.set_cons_succ, Option.map_some, Option.map_none, List.getD, Option.getD_some, if_true, true_and, and_true, Nat.reduceAdd, Nat.reduceSub, reduceIte, Bool.false_eq_true, Bool.not_true, Bool.not_false]
    exact h1 rfl
theorem sc_gcd_of : FnScope ["many", "other"] ["many", "other"] (defScope s_gcd_of) := ⟨rfl, rfl, rfl, by decide +kernel, rfl, by decide +kernel, by decide +kernel⟩
def fn_gcd_of (K : Fr) : Fn := fun as P PX => ∃ (a : Nat) (y : D), as = [.d (.int a), .d y] ∧ (isNb y = false → PX (refused K "other")) ∧ ∀ b : Nat, y = .int b → P (.d (.int (Nat.gcd a b : Nat)))
theorem gcd_call {K : Fr} {a b : Nat} {P : U → Prop} {PX : Ex → Prop} (h : P (.d (.int (Nat.gcd a b : Nat)))) : fn_gcd_of K [.d (.int a), .d (.int b)] P PX := ⟨a, _, rfl, fun z => by simp [isNb] at z, fun c e => by
  injection e with e
  obtain rfl : b = c := by omega
  exact h⟩
theorem has_gcd_of (T : Tk P K mg) {fd_need : FuncData} (h_need : Has P w K mg base 3 "need" s_need ["good", "word"] (fn_need K) fd_need) {fd_is_number : FuncData} (h_is_number : Has P w K mg base 2 "is_number" s_is_number ["thing"] fn_is_number fd_is_number) : ∃ fd, Has P w K mg base 4 "gcd_of" s_gcd_of ["many", "other"] (fn_gcd_of K) fd := by
  obtain ⟨fd, F⟩ := T.f_gcd_of
  have hb := F.binds (ps := ["many", "other"]) fun _ _ _ _ _ _ us hl => match us, hl with | [_, _], _ => rfl
  refine ⟨fd, T.g_gcd_of, F.kp, F, hb, fnD F sc_gcd_of (by decide) fun cdv A outer s H E hr => ⟨_, _, (dss_cons (ds_expr false (de_own h_need ⟨rfl, rfl, rfl, rfl, rfl⟩ (hr.mono (by decide)) rfl airD (da_cons (de_own h_is_number ⟨rfl, rfl, rfl, rfl, rfl⟩ (hr.mono (by decide)) rfl airD (da_cons (dv 1) da_nil)) (da_cons de_str da_nil))))
    (dss_cons (ds_while false poD (dt_cmp do_gt (dv 1) de_int) (dss_one (ds_par 0 1 (da_cons (dv 1) (da_cons (de_op do_mod (dv 0) (dv 1)) da_nil)) rfl sc_gcd_of.nd (by decide))))
    (dss_one (ds_ret false (dv 0))))), ?_⟩⟩
  rintro as Q PX hl ⟨a, y, rfl, h1, h2⟩
  refine i_seq fun N hN => ?_
  simp [vw_jk, at_0, at_1, at_2, at_3, at_4, ix_40, ix_41, ix_42, ix_43, boolsD_comp, intsD_comp, sh_int, sh_bool, sh_none, sh_str, ev_int, ev_bool, ev_str, ev_none, ev_ni, ev_in, uIfS, evT, ev, uRet, uRetO, uRetN, uDrop, uSet, uSetO, uMove, uFrz, uNext, uBreak, uCont, uApp, uIns, uPut, uPutA, uAug, uRaise, uVar, uC, uOp, uUn, uTru, uTst, uNot, uAnd, uOr, uAndV, uOrV, uNotV, uIf, uNil, uCons, argU, uTup, uLst, allD, onDs, onD, onT, onBool, oI, oIC, oAdd, oEq, oIsN, isN_none, isN_int, isN_bool, isN_str, isN_list, isN_tup, truD, oIx, uSl, uPart, uNoP, oSl, uCB, oLen, oList, oTuple, oInt, oAbs, oAll, oAny, oSum, onB, onI, uIs, uIs2, isT, uCall, uCallP, pick, vw, vw1, okU, okX, nolU, nol, nols, startU, kOf, kQ, kT, onL, uSeqI, uRng1, uRng2, rOk, uEnum, uRep, uTupRev, uYes, ugN, ugT2, wipeU, setU, uIfQ, uRetQ, uSetQ, uPutQ, ixC, uPar, uAsgT, uChain, uCall0, sizeLine_eq, oMax2, oSortI, oStrI, oIsB, szD, List.map_cons, List.map_nil, List.length_cons, List.length_nil, List.replicate, List.cons_append, List.nil_append, List.getElem?_cons_zero, List.getElem?_cons_succ, List.set_cons_zero, List.set_cons_succ, Option.map_some, Option.map_none, List.getD, Option.getD_some, if_true, true_and, and_true, Nat.reduceAdd, Nat.reduceSub, reduceIte, Bool.false_eq_true, Bool.not_true, Bool.not_false, num_iff, need_iff]
  refine ⟨fun e => ?_, h1⟩
  obtain ⟨b, rfl⟩ := isNb_nat e
  rw [hN]
  have h3 := h2 b rfl
  refine i_seq fun N2 hN2 => ?_
  refine i_while (fun n s' => ∃ x z : Nat, n = z ∧ s' = [some (.d (.int x)), some (.d (.int z))] ∧ Nat.gcd x z = Nat.gcd a b) b ⟨a, b, rfl, rfl, rfl⟩ ?_
  rintro n s' ⟨x, z, rfl, rfl, hg⟩ NX hNX
  simp [vw_jk, at_0, at_1, at_2, at_3, at_4, ix_40, ix_41, ix_42, ix_43, boolsD_comp, intsD_comp, sh_int, sh_bool, sh_none, sh_str, ev_int, ev_bool, ev_str, ev_none, ev_ni, ev_in, uIfS, evT, ev, uRet, uRetO, uRetN, uDrop, uSet, uSetO, uMove, uFrz, uNext, uBreak, uCont, uApp, uIns, uPut, uPutA, uAug, uRaise, uVar, uC, uOp, uUn, uTru, uTst, uNot, uAnd, uOr, uAndV, uOrV, uNotV, uIf, uNil, uCons, argU, uTup, uLst, allD, onDs, onD, onT, onBool, oI, oIC, oAdd, oEq, oIsN, isN_none, isN_int, isN_bool, isN_str, isN_list, isN_tup, truD, oIx, uSl, uPart, uNoP, oSl, uCB, oLen, oList, oTuple, oInt, oAbs, oAll, oAny, oSum, onB, onI, uIs, uIs2, isT, uCall, uCallP, pick, vw, vw1, okU, okX, nolU, nol, nols, startU, kOf, kQ, kT, onL, uSeqI, uRng1, uRng2, rOk, uEnum, uRep, uTupRev, uYes, ugN, ugT2, wipeU, setU, uIfQ, uRetQ, uSetQ, uPutQ, ixC, uPar, uAsgT, uChain, uCall0, sizeLine_eq, oMax2, oSortI, oStrI, oIsB, szD, List.map_cons, List.map_nil, List.length_cons, List.length_nil, List.replicate, List.cons_append, List.nil_append, List.getElem?_cons_zero, List.getElem?_cons_succ, List.set_cons_zero, List.set_cons_succ, Option.map_some, Option.map_none, List.getD, Option.getD_some, if_true, true_and, and_true, Nat.reduceAdd, Nat.reduceSub, reduceIte, Bool.false_eq_true, Bool.not_true, Bool.not_false]
  by_cases hz : 0 < n
  · simp [vw_jk, at_0, at_1, at_2, at_3, at_4, ix_40, ix_41, ix_42, ix_43, boolsD_comp, intsD_comp, sh_int, sh_bool, sh_none, sh_str, ev_int, ev_bool, ev_str, ev_none, ev_ni, ev_in, uIfS, evT, ev, uRet, uRetO, uRetN, uDrop, uSet, uSetO, uMove, uFrz, uNext, uBreak, uCont, uApp, uIns, uPut, uPutA, uAug, uRaise, uVar, uC, uOp, uUn, uTru, uTst, uNot, uAnd, uOr, uAndV, uOrV, uNotV, uIf, uNil, uCons, argU, uTup, uLst, allD, onDs, onD, onT, onBool, oI, oIC, oAdd, oEq, oIsN, isN_none, isN_int, isN_bool, isN_str, isN_list, isN_tup, truD, oIx, uSl, uPart, uNoP, oSl, uCB, oLen, oList, oTuple, oInt, oAbs, oAll, oAny, oSum, onB, onI, uIs, uIs2, isT, uCall, uCallP, pick, vw, vw1, okU, okX, nolU, nol, nols, startU, kOf, kQ, kT, onL, uSeqI, uRng1, uRng2, rOk, uEnum, uRep, uTupRev, uYes, ugN, ugT2, wipeU, setU, uIfQ, uRetQ, uSetQ, uPutQ, ixC, uPar, uAsgT, uChain, uCall0, sizeLine_eq, oMax2, oSortI, oStrI, oIsB, szD, List.map_cons, List.map_nil, List.length_cons, List.length_nil, List.replicate, List.cons_append, List.nil_append, List.getElem?_cons_zero, List.getElem?_cons_succ, List.set_cons_zero, List.set_cons_succ, Option.map_some, Option.map_none, List.getD, Option.getD_some, if_true, true_and, and_true, Nat.reduceAdd, Nat.reduceSub, reduceIte, Bool.false_eq_true, Bool.not_true, Bool.not_false, hz]
    exact hNX (x % n) _ (Nat.mod_lt _ hz) ⟨n, x % n, rfl, by simp, by rw [gcd_step, hg]⟩
  · simp [vw_jk, at_0, at_1, at_2, at_3, at_4, ix_40, ix_41, ix_42, ix_43, boolsD_comp, intsD_comp, sh_int, sh_bool, sh_none, sh_str, ev_int, ev_bool, ev_str, ev_none, ev_ni, ev_in, uIfS, evT, ev, uRet, uRetO, uRetN, uDrop, uSet, uSetO, uMove, uFrz, uNext, uBreak, uCont, uApp, uIns, uPut, uPutA, uAug, uRaise, uVar, uC, uOp, uUn, uTru, uTst, uNot, uAnd, uOr, uAndV, uOrV, uNotV, uIf, uNil, uCons, argU, uTup, uLst, allD, onDs, onD, onT, onBool, oI, oIC, oAdd, oEq, oIsN, isN_none, isN_int, isN_bool, isN_str, isN_list, isN_tup, truD, oIx, uSl, uPart, uNoP, oSl, uCB, oLen, oList, oTuple, oInt, oAbs, oAll, oAny, oSum, onB, onI, uIs, uIs2, isT, uCall, uCallP, pick, vw, vw1, okU, okX, nolU, nol, nols, startU, kOf, kQ, kT, onL, uSeqI, uRng1, uRng2, rOk, uEnum, uRep, uTupRev, uYes, ugN, ugT2, wipeU, setU, uIfQ, uRetQ, uSetQ, uPutQ, ixC, uPar, uAsgT, uChain, uCall0, sizeLine_eq, oMax2, oSortI, oStrI, oIsB, szD, List.map_cons, List.map_nil, List.length_cons, List.length_nil, List.replicate, List.cons_append, List.nil_append, List.getElem?_cons_zero, List.getElem?_cons_succ, List.set_cons_zero, List.set_cons_succ, Option.map_some, Option.map_none, List.getD, Option.getD_some, if_true, true_and, and_true, Nat.reduceAdd, Nat.reduceSub, reduceIte, Bool.false_eq_true, Bool.not_true, Bool.not_false, hz]
    have z0 : n = 0 := by omega
    subst z0
    rw [hN2]
    rw [Nat.gcd_zero_right] at hg
    simp [vw_jk, at_0, at_1, at_2, at_3, at_4, ix_40, ix_41, ix_42, ix_43, boolsD_comp, intsD_comp, sh_int, sh_bool, sh_none, sh_str, ev_int, ev_bool, ev_str, ev_none, ev_ni, ev_in, uIfS, evT, ev, uRet, uRetO, uRetN, uDrop, uSet, uSetO, uMove, uFrz, uNext, uBreak, uCont, uApp, uIns, uPut, uPutA, uAug, uRaise, uVar, uC, uOp, uUn, uTru, uTst, uNot, uAnd, uOr, uAndV, uOrV, uNotV, uIf, uNil, uCons, argU, uTup, uLst, allD, onDs, onD, onT, onBool, oI, oIC, oAdd, oEq, oIsN, isN_none, isN_int, isN_bool, isN_str, isN_list, isN_tup, truD, oIx, uSl, uPart, uNoP, oSl, uCB, oLen, oList, oTuple, oInt, oAbs, oAll, oAny, oSum, onB, onI, uIs, uIs2, isT, uCall, uCallP, pick, vw, vw1, okU, okX, nolU, nol, nols, startU, kOf, kQ, kT, onL, uSeqI, uRng1, uRng2, rOk, uEnum, uRep, uTupRev, uYes, ugN, ugT2, wipeU, setU, uIfQ, uRetQ, uSetQ, uPutQ, ixC, uPar, uAsgT, uChain, uCall0, sizeLine_eq, oMax2, oSortI, oStrI, oIsB, szD, List.map_cons, List.map_nil, List.length_cons, List.length_nil, List.replicate, List.cons_append, List.nil_append, List.getElem?_cons_zero, List.getElem?_cons_succ, List.set_cons_zero, List.set_cons_succ, Option.map_some, Option.map_none, List.getD, Option.getD_some, if_true, true_and, and_true, Nat.reduceAdd, Nat.reduceSub, reduceIte, Bool.false_eq_true, Bool.not_true, Bool.not_false]
    rw [hg]; exact h3
theorem sc_lcm_of : FnScope ["many", "other"] ["many", "other"] (defScope s_lcm_of) := ⟨rfl, rfl, rfl, by decide +kernel, rfl, by decide +kernel, by decide +kernel⟩
def fn_lcm_of (K : Fr) : Fn := fun as P PX => ∃ (a : Nat) (y : D), as = [.d (.int a), .d y] ∧ a < 2 ^ 400 ∧ (¬ (∃ b : Nat, y = .int b ∧ 1 ≤ b) → PX (refused K "other")) ∧ ∀ b : Nat, y = .int b → 1 ≤ b → b < 2 ^ 400 ∧ P (.d (.int (a / Nat.gcd a b * b : Nat)))
theorem int_nat {a b : Nat} (h : PyData.int (a : Int) = PyData.int (b : Int)) : a = b := by
  injection h with e; omega
theorem has_lcm_of (T : Tk P K mg) {fd_need : FuncData} (h_need : Has P w K mg base 3 "need" s_need ["good", "word"] (fn_need K) fd_need) {fd_is_number : FuncData} (h_is_number : Has P w K mg base 2 "is_number" s_is_number ["thing"] fn_is_number fd_is_number) {fd_gcd_of : FuncData} (h_gcd_of : Has P w K mg base 4 "gcd_of" s_gcd_of ["many", "other"] (fn_gcd_of K) fd_gcd_of) : ∃ fd, Has P w K mg base 5 "lcm_of" s_lcm_of ["many", "other"] (fn_lcm_of K) fd := by
  obtain ⟨fd, F⟩ := T.f_lcm_of
  have hb := F.binds (ps := ["many", "other"]) fun _ _ _ _ _ _ us hl => match us, hl with | [_, _], _ => rfl
  refine ⟨fd, T.g_lcm_of, F.kp, F, hb, fnD F sc_lcm_of (by decide) fun cdv A outer s H E hr => ⟨_, _, (dss_cons (ds_expr false (de_own h_need ⟨rfl, rfl, rfl, rfl, rfl⟩ (hr.mono (by decide)) rfl airD (da_cons (de_andk (KK := K) (de_own h_is_number ⟨rfl, rfl, rfl, rfl, rfl⟩ (hr.mono (by decide)) rfl airD (da_cons (dv 1) da_nil)) (de_one (de_cmp do_ge (dv 1) de_int))) (da_cons de_str da_nil))))
    (dss_one (ds_ret false (de_op do_mul (de_op do_fdiv (dv 0) (de_own h_gcd_of ⟨rfl, rfl, rfl, rfl, rfl⟩ (hr.mono (by decide)) rfl airD (da_cons (dv 0) (da_cons (dv 1) da_nil)))) (dv 1))))), ?_⟩⟩
  rintro as Q PX hl ⟨a, y, rfl, ha, h1, h2⟩
  refine i_seq fun N hN => ?_
  by_cases hy : ∃ b : Nat, y = .int b ∧ 1 ≤ b
  · obtain ⟨b, rfl, hb⟩ := hy
    obtain ⟨hb2, h3⟩ := h2 b rfl hb
    have e1 : isNb (.int (b : Int)) = true := by simp [isNb]
    have e2 : (1 : Int) ≤ b := by omega
    simp [vw_jk, at_0, at_1, at_2, at_3, at_4, ix_40, ix_41, ix_42, ix_43, boolsD_comp, intsD_comp, sh_int, sh_bool, sh_none, sh_str, ev_int, ev_bool, ev_str, ev_none, ev_ni, ev_in, uIfS, evT, ev, uRet, uRetO, uRetN, uDrop, uSet, uSetO, uMove, uFrz, uNext, uBreak, uCont, uApp, uIns, uPut, uPutA, uAug, uRaise, uVar, uC, uOp, uUn, uTru, uTst, uNot, uAnd, uOr, uAndV, uOrV, uNotV, uIf, uNil, uCons, argU, uTup, uLst, allD, onDs, onD, onT, onBool, oI, oIC, oAdd, oEq, oIsN, isN_none, isN_int, isN_bool, isN_str, isN_list, isN_tup, truD, oIx, uSl, uPart, uNoP, oSl, uCB, oLen, oList, oTuple, oInt, oAbs, oAll, oAny, oSum, onB, onI, uIs, uIs2, isT, uCall, uCallP, pick, vw, vw1, okU, okX, nolU, nol, nols, startU, kOf, kQ, kT, onL, uSeqI, uRng1, uRng2, rOk, uEnum, uRep, uTupRev, uYes, ugN, ugT2, wipeU, setU, uIfQ, uRetQ, uSetQ, uPutQ, ixC, uPar, uAsgT, uChain, uCall0, sizeLine_eq, oMax2, oSortI, oStrI, oIsB, szD, List.map_cons, List.map_nil, List.length_cons, List.length_nil, List.replicate, List.cons_append, List.nil_append, List.getElem?_cons_zero, List.getElem?_cons_succ, List.set_cons_zero, List.set_cons_succ, Option.map_some, Option.map_none, List.getD, Option.getD_some, if_true, true_and, and_true, Nat.reduceAdd, Nat.reduceSub, reduceIte, Bool.false_eq_true, Bool.not_true, Bool.not_false, num_iff, need_iff, e1, e2]
    rw [hN]
    simp [vw_jk, at_0, at_1, at_2, at_3, at_4, ix_40, ix_41, ix_42, ix_43, boolsD_comp, intsD_comp, sh_int, sh_bool, sh_none, sh_str, ev_int, ev_bool, ev_str, ev_none, ev_ni, ev_in, uIfS, evT, ev, uRet, uRetO, uRetN, uDrop, uSet, uSetO, uMove, uFrz, uNext, uBreak, uCont, uApp, uIns, uPut, uPutA, uAug, uRaise, uVar, uC, uOp, uUn, uTru, uTst, uNot, uAnd, uOr, uAndV, uOrV, uNotV, uIf, uNil, uCons, argU, uTup, uLst, allD, onDs, onD, onT, onBool, oI, oIC, oAdd, oEq, oIsN, isN_none, isN_int, isN_bool, isN_str, isN_list, isN_tup, truD, oIx, uSl, uPart, uNoP, oSl, uCB, oLen, oList, oTuple, oInt, oAbs, oAll, oAny, oSum, onB, onI, uIs, uIs2, isT, uCall, uCallP, pick, vw, vw1, okU, okX, nolU, nol, nols, startU, kOf, kQ, kT, onL, uSeqI, uRng1, uRng2, rOk, uEnum, uRep, uTupRev, uYes, ugN, ugT2, wipeU, setU, uIfQ, uRetQ, uSetQ, uPutQ, ixC, uPar, uAsgT, uChain, uCall0, sizeLine_eq, oMax2, oSortI, oStrI, oIsB, szD, List.map_cons, List.map_nil, List.length_cons, List.length_nil, List.replicate, List.cons_append, List.nil_append, List.getElem?_cons_zero, List.getElem?_cons_succ, List.set_cons_zero, List.set_cons_succ, Option.map_some, Option.map_none, List.getD, Option.getD_some, if_true, true_and, and_true, Nat.reduceAdd, Nat.reduceSub, reduceIte, Bool.false_eq_true, Bool.not_true, Bool.not_false]
    refine gcd_call ?_
    have hg : 0 < Nat.gcd a b := Nat.gcd_pos_of_pos_right a hb
    have hg2 : Nat.gcd a b < 2 ^ 400 := Nat.lt_of_le_of_lt (Nat.gcd_le_right a hb) hb2
    simp [vw_jk, at_0, at_1, at_2, at_3, at_4, ix_40, ix_41, ix_42, ix_43, boolsD_comp, intsD_comp, sh_int, sh_bool, sh_none, sh_str, ev_int, ev_bool, ev_str, ev_none, ev_ni, ev_in, uIfS, evT, ev, uRet, uRetO, uRetN, uDrop, uSet, uSetO, uMove, uFrz, uNext, uBreak, uCont, uApp, uIns, uPut, uPutA, uAug, uRaise, uVar, uC, uOp, uUn, uTru, uTst, uNot, uAnd, uOr, uAndV, uOrV, uNotV, uIf, uNil, uCons, argU, uTup, uLst, allD, onDs, onD, onT, onBool, oI, oIC, oAdd, oEq, oIsN, isN_none, isN_int, isN_bool, isN_str, isN_list, isN_tup, truD, oIx, uSl, uPart, uNoP, oSl, uCB, oLen, oList, oTuple, oInt, oAbs, oAll, oAny, oSum, onB, onI, uIs, uIs2, isT, uCall, uCallP, pick, vw, vw1, okU, okX, nolU, nol, nols, startU, kOf, kQ, kT, onL, uSeqI, uRng1, uRng2, rOk, uEnum, uRep, uTupRev, uYes, ugN, ugT2, wipeU, setU, uIfQ, uRetQ, uSetQ, uPutQ, ixC, uPar, uAsgT, uChain, uCall0, sizeLine_eq, oMax2, oSortI, oStrI, oIsB, szD, List.map_cons, List.map_nil, List.length_cons, List.length_nil, List.replicate, List.cons_append, List.nil_append, List.getElem?_cons_zero, List.getElem?_cons_succ, List.set_cons_zero, List.set_cons_succ, Option.map_some, Option.map_none, List.getD, Option.getD_some, if_true, true_and, and_true, Nat.reduceAdd, Nat.reduceSub, reduceIte, Bool.false_eq_true, Bool.not_true, Bool.not_false]
    rw [show ((a : Int) / (Nat.gcd a b : Int)) = ((a / Nat.gcd a b : Nat) : Int) from rfl]
    refine ⟨divW (by omega) (by rw [Int.natAbs_natCast]; exact hg2), mulW ?_ (by rw [Int.natAbs_natCast]; exact hb2), ?_⟩
    · rw [Int.natAbs_natCast]
      exact Nat.lt_of_le_of_lt (Nat.div_le_self _ _) ha
    · simpa using h3
  · have h3 := h1 hy
    have e1 : isNb y = true → ∃ b : Nat, y = .int b := isNb_nat
    simp [vw_jk, at_0, at_1, at_2, at_3, at_4, ix_40, ix_41, ix_42, ix_43, boolsD_comp, intsD_comp, sh_int, sh_bool, sh_none, sh_str, ev_int, ev_bool, ev_str, ev_none, ev_ni, ev_in, uIfS, evT, ev, uRet, uRetO, uRetN, uDrop, uSet, uSetO, uMove, uFrz, uNext, uBreak, uCont, uApp, uIns, uPut, uPutA, uAug, uRaise, uVar, uC, uOp, uUn, uTru, uTst, uNot, uAnd, uOr, uAndV, uOrV, uNotV, uIf, uNil, uCons, argU, uTup, uLst, allD, onDs, onD, onT, onBool, oI, oIC, oAdd, oEq, oIsN, isN_none, isN_int, isN_bool, isN_str, isN_list, isN_tup, truD, oIx, uSl, uPart, uNoP, oSl, uCB, oLen, oList, oTuple, oInt, oAbs, oAll, oAny, oSum, onB, onI, uIs, uIs2, isT, uCall, uCallP, pick, vw, vw1, okU, okX, nolU, nol, nols, startU, kOf, kQ, kT, onL, uSeqI, uRng1, uRng2, rOk, uEnum, uRep, uTupRev, uYes, ugN, ugT2, wipeU, setU, uIfQ, uRetQ, uSetQ, uPutQ, ixC, uPar, uAsgT, uChain, uCall0, sizeLine_eq, oMax2, oSortI, oStrI, oIsB, szD, List.map_cons, List.map_nil, List.length_cons, List.length_nil, List.replicate, List.cons_append, List.nil_append, List.getElem?_cons_zero, List.getElem?_cons_succ, List.set_cons_zero, List.set_cons_succ, Option.map_some, Option.map_none, List.getD, Option.getD_some, if_true, true_and, and_true, Nat.reduceAdd, Nat.reduceSub, reduceIte, Bool.false_eq_true, Bool.not_true, Bool.not_false, num_iff, need_iff]
    split
    · next e =>
      obtain ⟨b, rfl⟩ := isNb_nat e
      have e2 : ¬ (1 : Int) ≤ b := fun z => hy ⟨b, rfl, by omega⟩
      simp [vw_jk, at_0, at_1, at_2, at_3, at_4, ix_40, ix_41, ix_42, ix_43, boolsD_comp, intsD_comp, sh_int, sh_bool, sh_none, sh_str, ev_int, ev_bool, ev_str, ev_none, ev_ni, ev_in, uIfS, evT, ev, uRet, uRetO, uRetN, uDrop, uSet, uSetO, uMove, uFrz, uNext, uBreak, uCont, uApp, uIns, uPut, uPutA, uAug, uRaise, uVar, uC, uOp, uUn, uTru, uTst, uNot, uAnd, uOr, uAndV, uOrV, uNotV, uIf, uNil, uCons, argU, uTup, uLst, allD, onDs, onD, onT, onBool, oI, oIC, oAdd, oEq, oIsN, isN_none, isN_int, isN_bool, isN_str, isN_list, isN_tup, truD, oIx, uSl, uPart, uNoP, oSl, uCB, oLen, oList, oTuple, oInt, oAbs, oAll, oAny, oSum, onB, onI, uIs, uIs2, isT, uCall, uCallP, pick, vw, vw1, okU, okX, nolU, nol, nols, startU, kOf, kQ, kT, onL, uSeqI, uRng1, uRng2, rOk, uEnum, uRep, uTupRev, uYes, ugN, ugT2, wipeU, setU, uIfQ, uRetQ, uSetQ, uPutQ, ixC, uPar, uAsgT, uChain, uCall0, sizeLine_eq, oMax2, oSortI, oStrI, oIsB, szD, List.map_cons, List.map_nil, List.length_cons, List.length_nil, List.replicate, List.cons_append, List.nil_append, List.getElem?_cons_zero, List.getElem?_cons_succ, List.set_cons_zero, List.set_cons_succ, Option.map_some, Option.map_none, List.getD, Option.getD_some, if_true, true_and, and_true, Nat.reduceAdd, Nat.reduceSub, reduceIte, Bool.false_eq_true, Bool.not_true, Bool.not_false, e2]
      exact fun _ => h3
    · next e =>
      simp [vw_jk, at_0, at_1, at_2, at_3, at_4, ix_40, ix_41, ix_42, ix_43, boolsD_comp, intsD_comp, sh_int, sh_bool, sh_none, sh_str, ev_int, ev_bool, ev_str, ev_none, ev_ni, ev_in, uIfS, evT, ev, uRet, uRetO, uRetN, uDrop, uSet, uSetO, uMove, uFrz, uNext, uBreak, uCont, uApp, uIns, uPut, uPutA, uAug, uRaise, uVar, uC, uOp, uUn, uTru, uTst, uNot, uAnd, uOr, uAndV, uOrV, uNotV, uIf, uNil, uCons, argU, uTup, uLst, allD, onDs, onD, onT, onBool, oI, oIC, oAdd, oEq, oIsN, isN_none, isN_int, isN_bool, isN_str, isN_list, isN_tup, truD, oIx, uSl, uPart, uNoP, oSl, uCB, oLen, oList, oTuple, oInt, oAbs, oAll, oAny, oSum, onB, onI, uIs, uIs2, isT, uCall, uCallP, pick, vw, vw1, okU, okX, nolU, nol, nols, startU, kOf, kQ, kT, onL, uSeqI, uRng1, uRng2, rOk, uEnum, uRep, uTupRev, uYes, ugN, ugT2, wipeU, setU, uIfQ, uRetQ, uSetQ, uPutQ, ixC, uPar, uAsgT, uChain, uCall0, sizeLine_eq, oMax2, oSortI, oStrI, oIsB, szD, List.map_cons, List.map_nil, List.length_cons, List.length_nil, List.replicate, List.cons_append, List.nil_append, List.getElem?_cons_zero, List.getElem?_cons_succ, List.set_cons_zero, List.set_cons_succ, Option.map_some, Option.map_none, List.getD, Option.getD_some, if_true, true_and, and_true, Nat.reduceAdd, Nat.reduceSub, reduceIte, Bool.false_eq_true, Bool.not_true, Bool.not_false, e]
      exact h3
theorem sc_turns_of : FnScope ["wheel", "place"] ["wheel", "place"] (defScope s_turns_of) := ⟨rfl, rfl, rfl, by decide +kernel, rfl, by decide +kernel, by decide +kernel⟩
def isPl (w : Nat) (y : D) : Prop := ∃ p : Nat, y = .int p ∧ p < w
def fn_turns_of (K : Fr) : Fn := fun as P PX => ∃ (w : Nat) (y : D), as = [.d (.int w), .d y] ∧ 0 < w ∧ w < 2 ^ 400 ∧ (¬ isPl w y → PX (refused K "place")) ∧ ∀ p : Nat, y = .int p → p < w → P (.d (.int (w / Nat.gcd p w : Nat)))
theorem has_turns_of (T : Tk P K mg) {fd_need : FuncData} (h_need : Has P w K mg base 3 "need" s_need ["good", "word"] (fn_need K) fd_need) {fd_gcd_of : FuncData} (h_gcd_of : Has P w K mg base 4 "gcd_of" s_gcd_of ["many", "other"] (fn_gcd_of K) fd_gcd_of) {fd_is_number : FuncData} (h_is_number : Has P w K mg base 2 "is_number" s_is_number ["thing"] fn_is_number fd_is_number) : ∃ fd, Has P w K mg base 5 "turns_of" s_turns_of ["wheel", "place"] (fn_turns_of K) fd := by
  obtain ⟨fd, F⟩ := T.f_turns_of
  have hb := F.binds (ps := ["wheel", "place"]) fun _ _ _ _ _ _ us hl => match us, hl with | [_, _], _ => rfl
  refine ⟨fd, T.g_turns_of, F.kp, F, hb, fnD F sc_turns_of (by decide) fun cdv A outer s H E hr => ⟨_, _, (dss_cons (ds_expr false (de_own h_need ⟨rfl, rfl, rfl, rfl, rfl⟩ (hr.mono (by decide)) rfl airD (da_cons (de_andk (KK := K) (de_own h_is_number ⟨rfl, rfl, rfl, rfl, rfl⟩ (hr.mono (by decide)) rfl airD (da_cons (dv 1) da_nil)) (de_one (de_cmp do_lt (dv 1) (dv 0)))) (da_cons de_str da_nil))))
    (dss_one (ds_ret false (de_op do_fdiv (dv 0) (de_own h_gcd_of ⟨rfl, rfl, rfl, rfl, rfl⟩ (hr.mono (by decide)) rfl airD (da_cons (dv 1) (da_cons (dv 0) da_nil))))))), ?_⟩⟩
  rintro as Q PX hl ⟨w', y, rfl, w0, w1, h1, h2⟩
  refine i_seq fun N hN => ?_
  by_cases hy : isPl w' y
  · obtain ⟨p, rfl, hp⟩ := hy
    have h3 := h2 p rfl hp
    have e1 : isNb (.int (p : Int)) = true := by simp [isNb]
    simp [vw_jk, at_0, at_1, at_2, at_3, at_4, ix_40, ix_41, ix_42, ix_43, boolsD_comp, intsD_comp, sh_int, sh_bool, sh_none, sh_str, ev_int, ev_bool, ev_str, ev_none, ev_ni, ev_in, uIfS, evT, ev, uRet, uRetO, uRetN, uDrop, uSet, uSetO, uMove, uFrz, uNext, uBreak, uCont, uApp, uIns, uPut, uPutA, uAug, uRaise, uVar, uC, uOp, uUn, uTru, uTst, uNot, uAnd, uOr, uAndV, uOrV, uNotV, uIf, uNil, uCons, argU, uTup, uLst, allD, onDs, onD, onT, onBool, oI, oIC, oAdd, oEq, oIsN, isN_none, isN_int, isN_bool, isN_str, isN_list, isN_tup, truD, oIx, uSl, uPart, uNoP, oSl, uCB, oLen, oList, oTuple, oInt, oAbs, oAll, oAny, oSum, onB, onI, uIs, uIs2, isT, uCall, uCallP, pick, vw, vw1, okU, okX, nolU, nol, nols, startU, kOf, kQ, kT, onL, uSeqI, uRng1, uRng2, rOk, uEnum, uRep, uTupRev, uYes, ugN, ugT2, wipeU, setU, uIfQ, uRetQ, uSetQ, uPutQ, ixC, uPar, uAsgT, uChain, uCall0, sizeLine_eq, oMax2, oSortI, oStrI, oIsB, szD, List.map_cons, List.map_nil, List.length_cons, List.length_nil, List.replicate, List.cons_append, List.nil_append, List.getElem?_cons_zero, List.getElem?_cons_succ, List.set_cons_zero, List.set_cons_succ, Option.map_some, Option.map_none, List.getD, Option.getD_some, if_true, true_and, and_true, Nat.reduceAdd, Nat.reduceSub, reduceIte, Bool.false_eq_true, Bool.not_true, Bool.not_false, num_iff, need_iff, e1, hp]
    rw [hN]
    simp [vw_jk, at_0, at_1, at_2, at_3, at_4, ix_40, ix_41, ix_42, ix_43, boolsD_comp, intsD_comp, sh_int, sh_bool, sh_none, sh_str, ev_int, ev_bool, ev_str, ev_none, ev_ni, ev_in, uIfS, evT, ev, uRet, uRetO, uRetN, uDrop, uSet, uSetO, uMove, uFrz, uNext, uBreak, uCont, uApp, uIns, uPut, uPutA, uAug, uRaise, uVar, uC, uOp, uUn, uTru, uTst, uNot, uAnd, uOr, uAndV, uOrV, uNotV, uIf, uNil, uCons, argU, uTup, uLst, allD, onDs, onD, onT, onBool, oI, oIC, oAdd, oEq, oIsN, isN_none, isN_int, isN_bool, isN_str, isN_list, isN_tup, truD, oIx, uSl, uPart, uNoP, oSl, uCB, oLen, oList, oTuple, oInt, oAbs, oAll, oAny, oSum, onB, onI, uIs, uIs2, isT, uCall, uCallP, pick, vw, vw1, okU, okX, nolU, nol, nols, startU, kOf, kQ, kT, onL, uSeqI, uRng1, uRng2, rOk, uEnum, uRep, uTupRev, uYes, ugN, ugT2, wipeU, setU, uIfQ, uRetQ, uSetQ, uPutQ, ixC, uPar, uAsgT, uChain, uCall0, sizeLine_eq, oMax2, oSortI, oStrI, oIsB, szD, List.map_cons, List.map_nil, List.length_cons, List.length_nil, List.replicate, List.cons_append, List.nil_append, List.getElem?_cons_zero, List.getElem?_cons_succ, List.set_cons_zero, List.set_cons_succ, Option.map_some, Option.map_none, List.getD, Option.getD_some, if_true, true_and, and_true, Nat.reduceAdd, Nat.reduceSub, reduceIte, Bool.false_eq_true, Bool.not_true, Bool.not_false]
    refine gcd_call ?_
    have hg : 0 < Nat.gcd p w' := Nat.gcd_pos_of_pos_right p w0
    have hg2 : Nat.gcd p w' < 2 ^ 400 := Nat.lt_of_le_of_lt (Nat.gcd_le_right p w0) w1
    simp [vw_jk, at_0, at_1, at_2, at_3, at_4, ix_40, ix_41, ix_42, ix_43, boolsD_comp, intsD_comp, sh_int, sh_bool, sh_none, sh_str, ev_int, ev_bool, ev_str, ev_none, ev_ni, ev_in, uIfS, evT, ev, uRet, uRetO, uRetN, uDrop, uSet, uSetO, uMove, uFrz, uNext, uBreak, uCont, uApp, uIns, uPut, uPutA, uAug, uRaise, uVar, uC, uOp, uUn, uTru, uTst, uNot, uAnd, uOr, uAndV, uOrV, uNotV, uIf, uNil, uCons, argU, uTup, uLst, allD, onDs, onD, onT, onBool, oI, oIC, oAdd, oEq, oIsN, isN_none, isN_int, isN_bool, isN_str, isN_list, isN_tup, truD, oIx, uSl, uPart, uNoP, oSl, uCB, oLen, oList, oTuple, oInt, oAbs, oAll, oAny, oSum, onB, onI, uIs, uIs2, isT, uCall, uCallP, pick, vw, vw1, okU, okX, nolU, nol, nols, startU, kOf, kQ, kT, onL, uSeqI, uRng1, uRng2, rOk, uEnum, uRep, uTupRev, uYes, ugN, ugT2, wipeU, setU, uIfQ, uRetQ, uSetQ, uPutQ, ixC, uPar, uAsgT, uChain, uCall0, sizeLine_eq, oMax2, oSortI, oStrI, oIsB, szD, List.map_cons, List.map_nil, List.length_cons, List.length_nil, List.replicate, List.cons_append, List.nil_append, List.getElem?_cons_zero, List.getElem?_cons_succ, List.set_cons_zero, List.set_cons_succ, Option.map_some, Option.map_none, List.getD, Option.getD_some, if_true, true_and, and_true, Nat.reduceAdd, Nat.reduceSub, reduceIte, Bool.false_eq_true, Bool.not_true, Bool.not_false]
    exact ⟨divW (by omega) (by simpa using hg2), by simpa using h3⟩
  · have h3 := h1 hy
    simp [vw_jk, at_0, at_1, at_2, at_3, at_4, ix_40, ix_41, ix_42, ix_43, boolsD_comp, intsD_comp, sh_int, sh_bool, sh_none, sh_str, ev_int, ev_bool, ev_str, ev_none, ev_ni, ev_in, uIfS, evT, ev, uRet, uRetO, uRetN, uDrop, uSet, uSetO, uMove, uFrz, uNext, uBreak, uCont, uApp, uIns, uPut, uPutA, uAug, uRaise, uVar, uC, uOp, uUn, uTru, uTst, uNot, uAnd, uOr, uAndV, uOrV, uNotV, uIf, uNil, uCons, argU, uTup, uLst, allD, onDs, onD, onT, onBool, oI, oIC, oAdd, oEq, oIsN, isN_none, isN_int, isN_bool, isN_str, isN_list, isN_tup, truD, oIx, uSl, uPart, uNoP, oSl, uCB, oLen, oList, oTuple, oInt, oAbs, oAll, oAny, oSum, onB, onI, uIs, uIs2, isT, uCall, uCallP, pick, vw, vw1, okU, okX, nolU, nol, nols, startU, kOf, kQ, kT, onL, uSeqI, uRng1, uRng2, rOk, uEnum, uRep, uTupRev, uYes, ugN, ugT2, wipeU, setU, uIfQ, uRetQ, uSetQ, uPutQ, ixC, uPar, uAsgT, uChain, uCall0, sizeLine_eq, oMax2, oSortI, oStrI, oIsB, szD, List.map_cons, List.map_nil, List.length_cons, List.length_nil, List.replicate, List.cons_append, List.nil_append, List.getElem?_cons_zero, List.getElem?_cons_succ, List.set_cons_zero, List.set_cons_succ, Option.map_some, Option.map_none, List.getD, Option.getD_some, if_true, true_and, and_true, Nat.reduceAdd, Nat.reduceSub, reduceIte, Bool.false_eq_true, Bool.not_true, Bool.not_false, num_iff, need_iff]
    split
    · next e =>
      obtain ⟨b, rfl⟩ := isNb_nat e
      have e2 : ¬ b < w' := fun z => hy ⟨b, rfl, z⟩
      simp [vw_jk, at_0, at_1, at_2, at_3, at_4, ix_40, ix_41, ix_42, ix_43, boolsD_comp, intsD_comp, sh_int, sh_bool, sh_none, sh_str, ev_int, ev_bool, ev_str, ev_none, ev_ni, ev_in, uIfS, evT, ev, uRet, uRetO, uRetN, uDrop, uSet, uSetO, uMove, uFrz, uNext, uBreak, uCont, uApp, uIns, uPut, uPutA, uAug, uRaise, uVar, uC, uOp, uUn, uTru, uTst, uNot, uAnd, uOr, uAndV, uOrV, uNotV, uIf, uNil, uCons, argU, uTup, uLst, allD, onDs, onD, onT, onBool, oI, oIC, oAdd, oEq, oIsN, isN_none, isN_int, isN_bool, isN_str, isN_list, isN_tup, truD, oIx, uSl, uPart, uNoP, oSl, uCB, oLen, oList, oTuple, oInt, oAbs, oAll, oAny, oSum, onB, onI, uIs, uIs2, isT, uCall, uCallP, pick, vw, vw1, okU, okX, nolU, nol, nols, startU, kOf, kQ, kT, onL, uSeqI, uRng1, uRng2, rOk, uEnum, uRep, uTupRev, uYes, ugN, ugT2, wipeU, setU, uIfQ, uRetQ, uSetQ, uPutQ, ixC, uPar, uAsgT, uChain, uCall0, sizeLine_eq, oMax2, oSortI, oStrI, oIsB, szD, List.map_cons, List.map_nil, List.length_cons, List.length_nil, List.replicate, List.cons_append, List.nil_append, List.getElem?_cons_zero, List.getElem?_cons_succ, List.set_cons_zero, List.set_cons_succ, Option.map_some, Option.map_none, List.getD, Option.getD_some, if_true, true_and, and_true, Nat.reduceAdd, Nat.reduceSub, reduceIte, Bool.false_eq_true, Bool.not_true, Bool.not_false, e2]
      exact fun _ => h3
    · next e =>
      simp [vw_jk, at_0, at_1, at_2, at_3, at_4, ix_40, ix_41, ix_42, ix_43, boolsD_comp, intsD_comp, sh_int, sh_bool, sh_none, sh_str, ev_int, ev_bool, ev_str, ev_none, ev_ni, ev_in, uIfS, evT, ev, uRet, uRetO, uRetN, uDrop, uSet, uSetO, uMove, uFrz, uNext, uBreak, uCont, uApp, uIns, uPut, uPutA, uAug, uRaise, uVar, uC, uOp, uUn, uTru, uTst, uNot, uAnd, uOr, uAndV, uOrV, uNotV, uIf, uNil, uCons, argU, uTup, uLst, allD, onDs, onD, onT, onBool, oI, oIC, oAdd, oEq, oIsN, isN_none, isN_int, isN_bool, isN_str, isN_list, isN_tup, truD, oIx, uSl, uPart, uNoP, oSl, uCB, oLen, oList, oTuple, oInt, oAbs, oAll, oAny, oSum, onB, onI, uIs, uIs2, isT, uCall, uCallP, pick, vw, vw1, okU, okX, nolU, nol, nols, startU, kOf, kQ, kT, onL, uSeqI, uRng1, uRng2, rOk, uEnum, uRep, uTupRev, uYes, ugN, ugT2, wipeU, setU, uIfQ, uRetQ, uSetQ, uPutQ, ixC, uPar, uAsgT, uChain, uCall0, sizeLine_eq, oMax2, oSortI, oStrI, oIsB, szD, List.map_cons, List.map_nil, List.length_cons, List.length_nil, List.replicate, List.cons_append, List.nil_append, List.getElem?_cons_zero, List.getElem?_cons_succ, List.set_cons_zero, List.set_cons_succ, Option.map_some, Option.map_none, List.getD, Option.getD_some, if_true, true_and, and_true, Nat.reduceAdd, Nat.reduceSub, reduceIte, Bool.false_eq_true, Bool.not_true, Bool.not_false, e]
      exact h3
theorem sc_inverse_of : FnScope ["wheel", "place", "ahead", "now", "factor_ahead", "factor", "times"] ["wheel", "place"] (defScope s_inverse_of) := ⟨rfl, rfl, rfl, by decide +kernel, rfl, by decide +kernel, by decide +kernel⟩
def fn_inverse_of (K : Fr) : Fn := fun as P PX => ∃ (w : Nat) (y : D), as = [.d (.int w), .d y] ∧ 0 < w ∧ w < 2 ^ 400 ∧ (¬ isPl w y → PX (refused K "place")) ∧
  ∀ p : Nat, y = .int p → p < w → (Nat.gcd p w ≠ 1 → P (.d .none)) ∧ (Nat.gcd p w = 1 → ∀ r : Int, 0 ≤ r → r < w → (r * p) % w = 1 % w → P (.d (.int r)))
/-- the invariant of the walk by divisions -/
def Ivw (w p : Nat) (x z : Nat) (f g : Int) : Prop := Nat.gcd x z = Nat.gcd p w ∧ 0 < x ∧ x ≤ w ∧ z ≤ w ∧ f.natAbs * z + g.natAbs * x ≤ w ∧ (f * p) % w = (x : Int) % w ∧ (g * p) % w = (z : Int) % w
theorem sub_mod {a b c d m q : Int} (h1 : a % m = c % m) (h2 : b % m = d % m) : (a - q * b) % m = (c - q * d) % m := by
  rw [Int.sub_emod, Int.sub_emod c, h1, Int.mul_emod q b, Int.mul_emod q d, h2]
theorem Ivw.step {w p x z : Nat} {f g : Int} (h : Ivw w p x z f g) (hz : 0 < z) : Ivw w p z (x % z) g (f - (x / z : Nat) * g) := by
  obtain ⟨h1, h2, b1, b2, h3, h4, h5⟩ := h
  have e : x / z * z + x % z = x := by rw [Nat.mul_comm]; exact Nat.div_add_mod x z
  refine ⟨by rw [gcd_step, h1], hz, b2, Nat.le_trans (Nat.le_of_lt (Nat.mod_lt x hz)) b2, ?_, h5, ?_⟩
  · have a1 : (f - (x / z : Nat) * g).natAbs ≤ f.natAbs + (x / z) * g.natAbs := by
      have := Int.natAbs_sub_le f ((x / z : Nat) * g)
      rw [Int.natAbs_mul, Int.natAbs_natCast] at this
      exact this
    have a2 := Nat.mul_le_mul_right z a1
    rw [Nat.add_mul, Nat.mul_assoc, Nat.mul_comm g.natAbs z, ← Nat.mul_assoc] at a2
    have a3 : g.natAbs * x = (x / z * z) * g.natAbs + g.natAbs * (x % z) := by
      rw [Nat.mul_comm (x / z * z), ← Nat.mul_add, e]
    omega
  · have e2 : ((x % z : Nat) : Int) = (x : Int) - (x / z : Nat) * (z : Int) := by
      have : ((x / z * z + x % z : Nat) : Int) = x := by rw [e]
      rw [Int.natCast_add, Int.natCast_mul] at this
      omega
    rw [e2, Int.sub_mul, Int.mul_assoc]
    exact sub_mod h4 h5
theorem ab_le {a : Int} {b c : Nat} {w : Nat} (hb : 0 < b) (h : a.natAbs * b + c ≤ w) (hw : w < 2 ^ 400) : a.natAbs < 2 ^ 400 := by
  have := Nat.mul_le_mul_left a.natAbs (show 1 ≤ b from hb)
  omega
theorem has_inverse_of (T : Tk P K mg) {fd_need : FuncData} (h_need : Has P w K mg base 3 "need" s_need ["good", "word"] (fn_need K) fd_need) {fd_is_number : FuncData} (h_is_number : Has P w K mg base 2 "is_number" s_is_number ["thing"] fn_is_number fd_is_number) : ∃ fd, Has P w K mg base 4 "inverse_of" s_inverse_of ["wheel", "place"] (fn_inverse_of K) fd := by
  obtain ⟨fd, F⟩ := T.f_inverse_of
  have hb := F.binds (ps := ["wheel", "place"]) fun _ _ _ _ _ _ us hl => match us, hl with | [_, _], _ => rfl
  refine ⟨fd, T.g_inverse_of, F.kp, F, hb, fnD F sc_inverse_of (by decide) fun cdv A outer s H E hr => ⟨_, _, (dss_cons (ds_expr false (de_own h_need ⟨rfl, rfl, rfl, rfl, rfl⟩ (hr.mono (by decide)) rfl airD (da_cons (de_andk (KK := K) (de_own h_is_number ⟨rfl, rfl, rfl, rfl, rfl⟩ (hr.mono (by decide)) rfl airD (da_cons (dv 1) da_nil)) (de_one (de_cmp do_lt (dv 1) (dv 0)))) (da_cons de_str da_nil))))
    (dss_cons (ds_par 2 3 (da_cons (dv 0) (da_cons (dv 1) da_nil)) rfl sc_inverse_of.nd (by decide))
    (dss_cons (ds_asgT false (de_tup (da_cons de_int (da_cons de_int da_nil))) (dg_tup2k (KK := K) 4 5 rfl sc_inverse_of.nd))
    (dss_cons (ds_while false poD (dt_cmp do_gt (dv 3) de_int) (dss_cons (ds_set false 6 (de_op do_fdiv (dv 2) (dv 3)) sc_inverse_of.nd)
    (dss_cons (ds_par 2 3 (da_cons (dv 3) (da_cons (de_op do_sub (dv 2) (de_op do_mul (dv 6) (dv 3))) da_nil)) rfl sc_inverse_of.nd (by decide))
    (dss_one (ds_par 4 5 (da_cons (dv 5) (da_cons (de_op do_sub (dv 4) (de_op do_mul (dv 6) (dv 5))) da_nil)) rfl sc_inverse_of.nd (by decide))))))
    (dss_cons (ds_if false (dt_cmp (do_nek (KK := K) hr.units) (dv 2) de_int) (dss_one (ds_ret false de_non)) dss_nil)
    (dss_one (ds_ret false (de_op do_mod (dv 4) (dv 0))))))))), ?_⟩⟩
  rintro as Q PX hl ⟨w', y, rfl, w0, w1, h1, h2⟩
  refine i_seq fun N hN => ?_
  by_cases hy : isPl w' y
  · obtain ⟨p, rfl, hp⟩ := hy
    obtain ⟨h3, h4⟩ := h2 p rfl hp
    have e1 : isNb (.int (p : Int)) = true := by simp [isNb]
    simp [vw_jk, at_0, at_1, at_2, at_3, at_4, ix_40, ix_41, ix_42, ix_43, boolsD_comp, intsD_comp, sh_int, sh_bool, sh_none, sh_str, ev_int, ev_bool, ev_str, ev_none, ev_ni, ev_in, uIfS, evT, ev, uRet, uRetO, uRetN, uDrop, uSet, uSetO, uMove, uFrz, uNext, uBreak, uCont, uApp, uIns, uPut, uPutA, uAug, uRaise, uVar, uC, uOp, uUn, uTru, uTst, uNot, uAnd, uOr, uAndV, uOrV, uNotV, uIf, uNil, uCons, argU, uTup, uLst, allD, onDs, onD, onT, onBool, oI, oIC, oAdd, oEq, oIsN, isN_none, isN_int, isN_bool, isN_str, isN_list, isN_tup, truD, oIx, uSl, uPart, uNoP, oSl, uCB, oLen, oList, oTuple, oInt, oAbs, oAll, oAny, oSum, onB, onI, uIs, uIs2, isT, uCall, uCallP, pick, vw, vw1, okU, okX, nolU, nol, nols, startU, kOf, kQ, kT, onL, uSeqI, uRng1, uRng2, rOk, uEnum, uRep, uTupRev, uYes, ugN, ugT2, wipeU, setU, uIfQ, uRetQ, uSetQ, uPutQ, ixC, uPar, uAsgT, uChain, uCall0, sizeLine_eq, oMax2, oSortI, oStrI, oIsB, szD, List.map_cons, List.map_nil, List.length_cons, List.length_nil, List.replicate, List.cons_append, List.nil_append, List.getElem?_cons_zero, List.getElem?_cons_succ, List.set_cons_zero, List.set_cons_succ, Option.map_some, Option.map_none, List.getD, Option.getD_some, if_true, true_and, and_true, Nat.reduceAdd, Nat.reduceSub, reduceIte, Bool.false_eq_true, Bool.not_true, Bool.not_false, num_iff, need_iff, e1, hp]
    rw [hN]
    refine i_seq fun N2 hN2 => ?_
    simp [vw_jk, at_0, at_1, at_2, at_3, at_4, ix_40, ix_41, ix_42, ix_43, boolsD_comp, intsD_comp, sh_int, sh_bool, sh_none, sh_str, ev_int, ev_bool, ev_str, ev_none, ev_ni, ev_in, uIfS, evT, ev, uRet, uRetO, uRetN, uDrop, uSet, uSetO, uMove, uFrz, uNext, uBreak, uCont, uApp, uIns, uPut, uPutA, uAug, uRaise, uVar, uC, uOp, uUn, uTru, uTst, uNot, uAnd, uOr, uAndV, uOrV, uNotV, uIf, uNil, uCons, argU, uTup, uLst, allD, onDs, onD, onT, onBool, oI, oIC, oAdd, oEq, oIsN, isN_none, isN_int, isN_bool, isN_str, isN_list, isN_tup, truD, oIx, uSl, uPart, uNoP, oSl, uCB, oLen, oList, oTuple, oInt, oAbs, oAll, oAny, oSum, onB, onI, uIs, uIs2, isT, uCall, uCallP, pick, vw, vw1, okU, okX, nolU, nol, nols, startU, kOf, kQ, kT, onL, uSeqI, uRng1, uRng2, rOk, uEnum, uRep, uTupRev, uYes, ugN, ugT2, wipeU, setU, uIfQ, uRetQ, uSetQ, uPutQ, ixC, uPar, uAsgT, uChain, uCall0, sizeLine_eq, oMax2, oSortI, oStrI, oIsB, szD, List.map_cons, List.map_nil, List.length_cons, List.length_nil, List.replicate, List.cons_append, List.nil_append, List.getElem?_cons_zero, List.getElem?_cons_succ, List.set_cons_zero, List.set_cons_succ, Option.map_some, Option.map_none, List.getD, Option.getD_some, if_true, true_and, and_true, Nat.reduceAdd, Nat.reduceSub, reduceIte, Bool.false_eq_true, Bool.not_true, Bool.not_false]
    rw [hN2]
    refine i_seq fun N3 hN3 => ?_
    simp [vw_jk, at_0, at_1, at_2, at_3, at_4, ix_40, ix_41, ix_42, ix_43, boolsD_comp, intsD_comp, sh_int, sh_bool, sh_none, sh_str, ev_int, ev_bool, ev_str, ev_none, ev_ni, ev_in, uIfS, evT, ev, uRet, uRetO, uRetN, uDrop, uSet, uSetO, uMove, uFrz, uNext, uBreak, uCont, uApp, uIns, uPut, uPutA, uAug, uRaise, uVar, uC, uOp, uUn, uTru, uTst, uNot, uAnd, uOr, uAndV, uOrV, uNotV, uIf, uNil, uCons, argU, uTup, uLst, allD, onDs, onD, onT, onBool, oI, oIC, oAdd, oEq, oIsN, isN_none, isN_int, isN_bool, isN_str, isN_list, isN_tup, truD, oIx, uSl, uPart, uNoP, oSl, uCB, oLen, oList, oTuple, oInt, oAbs, oAll, oAny, oSum, onB, onI, uIs, uIs2, isT, uCall, uCallP, pick, vw, vw1, okU, okX, nolU, nol, nols, startU, kOf, kQ, kT, onL, uSeqI, uRng1, uRng2, rOk, uEnum, uRep, uTupRev, uYes, ugN, ugT2, wipeU, setU, uIfQ, uRetQ, uSetQ, uPutQ, ixC, uPar, uAsgT, uChain, uCall0, sizeLine_eq, oMax2, oSortI, oStrI, oIsB, szD, List.map_cons, List.map_nil, List.length_cons, List.length_nil, List.replicate, List.cons_append, List.nil_append, List.getElem?_cons_zero, List.getElem?_cons_succ, List.set_cons_zero, List.set_cons_succ, Option.map_some, Option.map_none, List.getD, Option.getD_some, if_true, true_and, and_true, Nat.reduceAdd, Nat.reduceSub, reduceIte, Bool.false_eq_true, Bool.not_true, Bool.not_false]
    rw [hN3]
    refine i_seq fun N4 hN4 => ?_
    refine i_while (fun n s' => ∃ (x z : Nat) (f g : Int) (o : Option D), n = z ∧ s' = [some (.d (.int w')), some (.d (.int p)), some (.d (.int x)), some (.d (.int z)), some (.d (.int f)), some (.d (.int g)), jk o] ∧ Ivw w' p x z f g)
      p ⟨w', p, 0, 1, none, rfl, rfl, Nat.gcd_comm _ _, w0, Nat.le_refl _, Nat.le_of_lt hp, by simp, by simp, by simp⟩ ?_
    rintro n s' ⟨x, z, f, g, o, rfl, rfl, hi⟩ NX hNX
    simp [vw_jk, at_0, at_1, at_2, at_3, at_4, ix_40, ix_41, ix_42, ix_43, boolsD_comp, intsD_comp, sh_int, sh_bool, sh_none, sh_str, ev_int, ev_bool, ev_str, ev_none, ev_ni, ev_in, uIfS, evT, ev, uRet, uRetO, uRetN, uDrop, uSet, uSetO, uMove, uFrz, uNext, uBreak, uCont, uApp, uIns, uPut, uPutA, uAug, uRaise, uVar, uC, uOp, uUn, uTru, uTst, uNot, uAnd, uOr, uAndV, uOrV, uNotV, uIf, uNil, uCons, argU, uTup, uLst, allD, onDs, onD, onT, onBool, oI, oIC, oAdd, oEq, oIsN, isN_none, isN_int, isN_bool, isN_str, isN_list, isN_tup, truD, oIx, uSl, uPart, uNoP, oSl, uCB, oLen, oList, oTuple, oInt, oAbs, oAll, oAny, oSum, onB, onI, uIs, uIs2, isT, uCall, uCallP, pick, vw, vw1, okU, okX, nolU, nol, nols, startU, kOf, kQ, kT, onL, uSeqI, uRng1, uRng2, rOk, uEnum, uRep, uTupRev, uYes, ugN, ugT2, wipeU, setU, uIfQ, uRetQ, uSetQ, uPutQ, ixC, uPar, uAsgT, uChain, uCall0, sizeLine_eq, oMax2, oSortI, oStrI, oIsB, szD, List.map_cons, List.map_nil, List.length_cons, List.length_nil, List.replicate, List.cons_append, List.nil_append, List.getElem?_cons_zero, List.getElem?_cons_succ, List.set_cons_zero, List.set_cons_succ, Option.map_some, Option.map_none, List.getD, Option.getD_some, if_true, true_and, and_true, Nat.reduceAdd, Nat.reduceSub, reduceIte, Bool.false_eq_true, Bool.not_true, Bool.not_false]
    by_cases hz : 0 < n
    · simp [uSeq, vw_jk, at_0, at_1, at_2, at_3, at_4, ix_40, ix_41, ix_42, ix_43, boolsD_comp, intsD_comp, sh_int, sh_bool, sh_none, sh_str, ev_int, ev_bool, ev_str, ev_none, ev_ni, ev_in, uIfS, evT, ev, uRet, uRetO, uRetN, uDrop, uSet, uSetO, uMove, uFrz, uNext, uBreak, uCont, uApp, uIns, uPut, uPutA, uAug, uRaise, uVar, uC, uOp, uUn, uTru, uTst, uNot, uAnd, uOr, uAndV, uOrV, uNotV, uIf, uNil, uCons, argU, uTup, uLst, allD, onDs, onD, onT, onBool, oI, oIC, oAdd, oEq, oIsN, isN_none, isN_int, isN_bool, isN_str, isN_list, isN_tup, truD, oIx, uSl, uPart, uNoP, oSl, uCB, oLen, oList, oTuple, oInt, oAbs, oAll, oAny, oSum, onB, onI, uIs, uIs2, isT, uCall, uCallP, pick, vw, vw1, okU, okX, nolU, nol, nols, startU, kOf, kQ, kT, onL, uSeqI, uRng1, uRng2, rOk, uEnum, uRep, uTupRev, uYes, ugN, ugT2, wipeU, setU, uIfQ, uRetQ, uSetQ, uPutQ, ixC, uPar, uAsgT, uChain, uCall0, sizeLine_eq, oMax2, oSortI, oStrI, oIsB, szD, List.map_cons, List.map_nil, List.length_cons, List.length_nil, List.replicate, List.cons_append, List.nil_append, List.getElem?_cons_zero, List.getElem?_cons_succ, List.set_cons_zero, List.set_cons_succ, Option.map_some, Option.map_none, List.getD, Option.getD_some, if_true, true_and, and_true, Nat.reduceAdd, Nat.reduceSub, reduceIte, Bool.false_eq_true, Bool.not_true, Bool.not_false, hz]
      have hst := hi.step hz
      have hn : n < 2 ^ 400 := Nat.lt_of_le_of_lt hi.2.2.2.1 w1
      have hg : g.natAbs < 2 ^ 400 := ab_le (c := f.natAbs * n) hi.2.1 (by have := hi.2.2.2.2.1; omega) w1
      have hq : x / n < 2 ^ 400 := Nat.lt_of_le_of_lt (Nat.le_trans (Nat.div_le_self x n) hi.2.2.1) w1
      have eq : (x : Int) / (n : Int) = ((x / n : Nat) : Int) := rfl
      have em : (x : Int) - (x / n : Nat) * (n : Int) = ((x % n : Nat) : Int) := by
        have : ((n * (x / n) + x % n : Nat) : Int) = x := by rw [Nat.div_add_mod]
        rw [Int.natCast_add, Int.natCast_mul, Int.mul_comm] at this
        omega
      rw [eq, em]
      refine ⟨divW (by omega) (by rw [Int.natAbs_natCast]; exact hn), mulW (by rw [Int.natAbs_natCast]; exact hq) (by rw [Int.natAbs_natCast]; exact hn), mulW (by rw [Int.natAbs_natCast]; exact hq) hg, ?_⟩
      exact hNX (x % n) _ (Nat.mod_lt _ hz) ⟨n, x % n, g, _, some _, rfl, rfl, hst⟩
    · simp [vw_jk, at_0, at_1, at_2, at_3, at_4, ix_40, ix_41, ix_42, ix_43, boolsD_comp, intsD_comp, sh_int, sh_bool, sh_none, sh_str, ev_int, ev_bool, ev_str, ev_none, ev_ni, ev_in, uIfS, evT, ev, uRet, uRetO, uRetN, uDrop, uSet, uSetO, uMove, uFrz, uNext, uBreak, uCont, uApp, uIns, uPut, uPutA, uAug, uRaise, uVar, uC, uOp, uUn, uTru, uTst, uNot, uAnd, uOr, uAndV, uOrV, uNotV, uIf, uNil, uCons, argU, uTup, uLst, allD, onDs, onD, onT, onBool, oI, oIC, oAdd, oEq, oIsN, isN_none, isN_int, isN_bool, isN_str, isN_list, isN_tup, truD, oIx, uSl, uPart, uNoP, oSl, uCB, oLen, oList, oTuple, oInt, oAbs, oAll, oAny, oSum, onB, onI, uIs, uIs2, isT, uCall, uCallP, pick, vw, vw1, okU, okX, nolU, nol, nols, startU, kOf, kQ, kT, onL, uSeqI, uRng1, uRng2, rOk, uEnum, uRep, uTupRev, uYes, ugN, ugT2, wipeU, setU, uIfQ, uRetQ, uSetQ, uPutQ, ixC, uPar, uAsgT, uChain, uCall0, sizeLine_eq, oMax2, oSortI, oStrI, oIsB, szD, List.map_cons, List.map_nil, List.length_cons, List.length_nil, List.replicate, List.cons_append, List.nil_append, List.getElem?_cons_zero, List.getElem?_cons_succ, List.set_cons_zero, List.set_cons_succ, Option.map_some, Option.map_none, List.getD, Option.getD_some, if_true, true_and, and_true, Nat.reduceAdd, Nat.reduceSub, reduceIte, Bool.false_eq_true, Bool.not_true, Bool.not_false, hz]
      have z0 : n = 0 := by omega
      subst z0
      rw [hN4]
      obtain ⟨g1, g2, b1, b2, g3, g4, g5⟩ := hi
      rw [Nat.gcd_zero_right] at g1
      refine i_seq fun N5 hN5 => ?_
      simp [vw_jk, at_0, at_1, at_2, at_3, at_4, ix_40, ix_41, ix_42, ix_43, boolsD_comp, intsD_comp, sh_int, sh_bool, sh_none, sh_str, ev_int, ev_bool, ev_str, ev_none, ev_ni, ev_in, uIfS, evT, ev, uRet, uRetO, uRetN, uDrop, uSet, uSetO, uMove, uFrz, uNext, uBreak, uCont, uApp, uIns, uPut, uPutA, uAug, uRaise, uVar, uC, uOp, uUn, uTru, uTst, uNot, uAnd, uOr, uAndV, uOrV, uNotV, uIf, uNil, uCons, argU, uTup, uLst, allD, onDs, onD, onT, onBool, oI, oIC, oAdd, oEq, oIsN, isN_none, isN_int, isN_bool, isN_str, isN_list, isN_tup, truD, oIx, uSl, uPart, uNoP, oSl, uCB, oLen, oList, oTuple, oInt, oAbs, oAll, oAny, oSum, onB, onI, uIs, uIs2, isT, uCall, uCallP, pick, vw, vw1, okU, okX, nolU, nol, nols, startU, kOf, kQ, kT, onL, uSeqI, uRng1, uRng2, rOk, uEnum, uRep, uTupRev, uYes, ugN, ugT2, wipeU, setU, uIfQ, uRetQ, uSetQ, uPutQ, ixC, uPar, uAsgT, uChain, uCall0, sizeLine_eq, oMax2, oSortI, oStrI, oIsB, szD, List.map_cons, List.map_nil, List.length_cons, List.length_nil, List.replicate, List.cons_append, List.nil_append, List.getElem?_cons_zero, List.getElem?_cons_succ, List.set_cons_zero, List.set_cons_succ, Option.map_some, Option.map_none, List.getD, Option.getD_some, if_true, true_and, and_true, Nat.reduceAdd, Nat.reduceSub, reduceIte, Bool.false_eq_true, Bool.not_true, Bool.not_false]
      split
      · next h =>
        have hx : x = 1 := by omega
        rw [hN5]
        simp [vw_jk, at_0, at_1, at_2, at_3, at_4, ix_40, ix_41, ix_42, ix_43, boolsD_comp, intsD_comp, sh_int, sh_bool, sh_none, sh_str, ev_int, ev_bool, ev_str, ev_none, ev_ni, ev_in, uIfS, evT, ev, uRet, uRetO, uRetN, uDrop, uSet, uSetO, uMove, uFrz, uNext, uBreak, uCont, uApp, uIns, uPut, uPutA, uAug, uRaise, uVar, uC, uOp, uUn, uTru, uTst, uNot, uAnd, uOr, uAndV, uOrV, uNotV, uIf, uNil, uCons, argU, uTup, uLst, allD, onDs, onD, onT, onBool, oI, oIC, oAdd, oEq, oIsN, isN_none, isN_int, isN_bool, isN_str, isN_list, isN_tup, truD, oIx, uSl, uPart, uNoP, oSl, uCB, oLen, oList, oTuple, oInt, oAbs, oAll, oAny, oSum, onB, onI, uIs, uIs2, isT, uCall, uCallP, pick, vw, vw1, okU, okX, nolU, nol, nols, startU, kOf, kQ, kT, onL, uSeqI, uRng1, uRng2, rOk, uEnum, uRep, uTupRev, uYes, ugN, ugT2, wipeU, setU, uIfQ, uRetQ, uSetQ, uPutQ, ixC, uPar, uAsgT, uChain, uCall0, sizeLine_eq, oMax2, oSortI, oStrI, oIsB, szD, List.map_cons, List.map_nil, List.length_cons, List.length_nil, List.replicate, List.cons_append, List.nil_append, List.getElem?_cons_zero, List.getElem?_cons_succ, List.set_cons_zero, List.set_cons_succ, Option.map_some, Option.map_none, List.getD, Option.getD_some, if_true, true_and, and_true, Nat.reduceAdd, Nat.reduceSub, reduceIte, Bool.false_eq_true, Bool.not_true, Bool.not_false]
        refine ⟨by omega, h4 (by omega) _ (Int.emod_nonneg _ (by omega)) (Int.emod_lt_of_pos _ (by omega)) ?_⟩
        rw [Int.mul_emod, Int.emod_emod, ← Int.mul_emod, g4, hx]; rfl
      · next h => exact h3 (by omega)
  · have h3 := h1 hy
    simp [vw_jk, at_0, at_1, at_2, at_3, at_4, ix_40, ix_41, ix_42, ix_43, boolsD_comp, intsD_comp, sh_int, sh_bool, sh_none, sh_str, ev_int, ev_bool, ev_str, ev_none, ev_ni, ev_in, uIfS, evT, ev, uRet, uRetO, uRetN, uDrop, uSet, uSetO, uMove, uFrz, uNext, uBreak, uCont, uApp, uIns, uPut, uPutA, uAug, uRaise, uVar, uC, uOp, uUn, uTru, uTst, uNot, uAnd, uOr, uAndV, uOrV, uNotV, uIf, uNil, uCons, argU, uTup, uLst, allD, onDs, onD, onT, onBool, oI, oIC, oAdd, oEq, oIsN, isN_none, isN_int, isN_bool, isN_str, isN_list, isN_tup, truD, oIx, uSl, uPart, uNoP, oSl, uCB, oLen, oList, oTuple, oInt, oAbs, oAll, oAny, oSum, onB, onI, uIs, uIs2, isT, uCall, uCallP, pick, vw, vw1, okU, okX, nolU, nol, nols, startU, kOf, kQ, kT, onL, uSeqI, uRng1, uRng2, rOk, uEnum, uRep, uTupRev, uYes, ugN, ugT2, wipeU, setU, uIfQ, uRetQ, uSetQ, uPutQ, ixC, uPar, uAsgT, uChain, uCall0, sizeLine_eq, oMax2, oSortI, oStrI, oIsB, szD, List.map_cons, List.map_nil, List.length_cons, List.length_nil, List.replicate, List.cons_append, List.nil_append, List.getElem?_cons_zero, List.getElem?_cons_succ, List.set_cons_zero, List.set_cons_succ, Option.map_some, Option.map_none, List.getD, Option.getD_some, if_true, true_and, and_true, Nat.reduceAdd, Nat.reduceSub, reduceIte, Bool.false_eq_true, Bool.not_true, Bool.not_false, num_iff, need_iff]
    split
    · next e =>
      obtain ⟨b, rfl⟩ := isNb_nat e
      have e2 : ¬ b < w' := fun z => hy ⟨b, rfl, z⟩
      simp [vw_jk, at_0, at_1, at_2, at_3, at_4, ix_40, ix_41, ix_42, ix_43, boolsD_comp, intsD_comp, sh_int, sh_bool, sh_none, sh_str, ev_int, ev_bool, ev_str, ev_none, ev_ni, ev_in, uIfS, evT, ev, uRet, uRetO, uRetN, uDrop, uSet, uSetO, uMove, uFrz, uNext, uBreak, uCont, uApp, uIns, uPut, uPutA, uAug, uRaise, uVar, uC, uOp, uUn, uTru, uTst, uNot, uAnd, uOr, uAndV, uOrV, uNotV, uIf, uNil, uCons, argU, uTup, uLst, allD, onDs, onD, onT, onBool, oI, oIC, oAdd, oEq, oIsN, isN_none, isN_int, isN_bool, isN_str, isN_list, isN_tup, truD, oIx, uSl, uPart, uNoP, oSl, uCB, oLen, oList, oTuple, oInt, oAbs, oAll, oAny, oSum, onB, onI, uIs, uIs2, isT, uCall, uCallP, pick, vw, vw1, okU, okX, nolU, nol, nols, startU, kOf, kQ, kT, onL, uSeqI, uRng1, uRng2, rOk, uEnum, uRep, uTupRev, uYes, ugN, ugT2, wipeU, setU, uIfQ, uRetQ, uSetQ, uPutQ, ixC, uPar, uAsgT, uChain, uCall0, sizeLine_eq, oMax2, oSortI, oStrI, oIsB, szD, List.map_cons, List.map_nil, List.length_cons, List.length_nil, List.replicate, List.cons_append, List.nil_append, List.getElem?_cons_zero, List.getElem?_cons_succ, List.set_cons_zero, List.set_cons_succ, Option.map_some, Option.map_none, List.getD, Option.getD_some, if_true, true_and, and_true, Nat.reduceAdd, Nat.reduceSub, reduceIte, Bool.false_eq_true, Bool.not_true, Bool.not_false, e2]
      exact fun _ => h3
    · next e =>
      simp [vw_jk, at_0, at_1, at_2, at_3, at_4, ix_40, ix_41, ix_42, ix_43, boolsD_comp, intsD_comp, sh_int, sh_bool, sh_none, sh_str, ev_int, ev_bool, ev_str, ev_none, ev_ni, ev_in, uIfS, evT, ev, uRet, uRetO, uRetN, uDrop, uSet, uSetO, uMove, uFrz, uNext, uBreak, uCont, uApp, uIns, uPut, uPutA, uAug, uRaise, uVar, uC, uOp, uUn, uTru, uTst, uNot, uAnd, uOr, uAndV, uOrV, uNotV, uIf, uNil, uCons, argU, uTup, uLst, allD, onDs, onD, onT, onBool, oI, oIC, oAdd, oEq, oIsN, isN_none, isN_int, isN_bool, isN_str, isN_list, isN_tup, truD, oIx, uSl, uPart, uNoP, oSl, uCB, oLen, oList, oTuple, oInt, oAbs, oAll, oAny, oSum, onB, onI, uIs, uIs2, isT, uCall, uCallP, pick, vw, vw1, okU, okX, nolU, nol, nols, startU, kOf, kQ, kT, onL, uSeqI, uRng1, uRng2, rOk, uEnum, uRep, uTupRev, uYes, ugN, ugT2, wipeU, setU, uIfQ, uRetQ, uSetQ, uPutQ, ixC, uPar, uAsgT, uChain, uCall0, sizeLine_eq, oMax2, oSortI, oStrI, oIsB, szD, List.map_cons, List.map_nil, List.length_cons, List.length_nil, List.replicate, List.cons_append, List.nil_append, List.getElem?_cons_zero, List.getElem?_cons_succ, List.set_cons_zero, List.set_cons_succ, Option.map_some, Option.map_none, List.getD, Option.getD_some, if_true, true_and, and_true, Nat.reduceAdd, Nat.reduceSub, reduceIte, Bool.false_eq_true, Bool.not_true, Bool.not_false, e]
      exact h3
theorem sc_product_of : FnScope ["ranges", "product", "many"] ["ranges"] (defScope s_product_of) := ⟨rfl, rfl, rfl, by decide +kernel, rfl, by decide +kernel, by decide +kernel⟩
def prodN : List Nat → Nat
  | [] => 1
  | a :: l => a * prodN l
theorem prodN_take {l : List Nat} {i : Nat} {a : Nat} (h : l[i]? = some a) : prodN (l.take (i + 1)) = prodN (l.take i) * a := by
  induction l generalizing i with
  | nil => simp at h
  | cons b l ih =>
    cases i with
    | zero => simp at h; subst h; simp [prodN]
    | succ i =>
      simp at h
      rw [List.take_succ_cons, List.take_succ_cons]
      show b * prodN _ = b * prodN _ * a
      rw [ih h, Nat.mul_assoc]
theorem prodN_lt {l : List Nat} (h : ∀ a ∈ l, a < 2 ^ 70) : prodN l < 2 ^ (70 * l.length + 1) := by
  induction l with
  | nil => decide
  | cons a l ih =>
    have h1 := h a (.head _)
    have h2 := ih fun x hx => h x (.tail _ hx)
    show a * prodN l < _
    rw [List.length_cons, show 70 * (l.length + 1) + 1 = 70 + (70 * l.length + 1) by omega, Nat.pow_add]
    exact Nat.mul_lt_mul'' h1 h2
def natD (l : List Nat) : List D := l.map fun n => .int (n : Nat)
theorem natD_get {l : List Nat} {i : Nat} {d : D} (h : (natD l)[i]? = some d) : ∃ a : Nat, d = .int a ∧ l[i]? = some a := by
  unfold natD at h
  rw [List.getElem?_map] at h
  obtain ⟨a, h1, rfl⟩ := Option.map_eq_some_iff.mp h
  exact ⟨a, rfl, h1⟩
theorem natD_len (l : List Nat) : (natD l).length = l.length := by simp [natD]
def fn_product_of : Fn := fun as P PX => ∃ l : List Nat, as = [.d (.tuple (natD l))] ∧ l.length ≤ 100 ∧ (∀ a ∈ l, a < 2 ^ 70) ∧ P (.d (.int (prodN l : Nat)))
theorem has_product_of (T : Tk P K mg) : ∃ fd, Has P w K mg base 1 "product_of" s_product_of ["ranges"] fn_product_of fd := by
  obtain ⟨fd, F⟩ := T.f_product_of
  have hb := F.binds (ps := ["ranges"]) fun _ _ _ _ _ _ us hl => match us, hl with | [_], _ => rfl
  refine ⟨fd, T.g_product_of, F.kp, F, hb, fnD F sc_product_of (by decide) fun cdv A outer s H E hr => ⟨_, _, (dss_cons (ds_set false 1 de_int sc_product_of.nd)
    (dss_cons (ds_for poD rfl (di_seqk (KK := K) (dv 0)) (dg_name 2 sc_product_of.nd) (dss_one (ds_set false 1 (de_op do_mul (dv 1) (dv 2)) sc_product_of.nd)))
    (dss_one (ds_ret false (dv 1))))), ?_⟩⟩
  rintro as Q PX hl ⟨l, rfl, h1, h2, h3⟩
  refine i_seq fun N hN => ?_
  simp [vw_jk, at_0, at_1, at_2, at_3, at_4, ix_40, ix_41, ix_42, ix_43, boolsD_comp, intsD_comp, sh_int, sh_bool, sh_none, sh_str, ev_int, ev_bool, ev_str, ev_none, ev_ni, ev_in, uIfS, evT, ev, uRet, uRetO, uRetN, uDrop, uSet, uSetO, uMove, uFrz, uNext, uBreak, uCont, uApp, uIns, uPut, uPutA, uAug, uRaise, uVar, uC, uOp, uUn, uTru, uTst, uNot, uAnd, uOr, uAndV, uOrV, uNotV, uIf, uNil, uCons, argU, uTup, uLst, allD, onDs, onD, onT, onBool, oI, oIC, oAdd, oEq, oIsN, isN_none, isN_int, isN_bool, isN_str, isN_list, isN_tup, truD, oIx, uSl, uPart, uNoP, oSl, uCB, oLen, oList, oTuple, oInt, oAbs, oAll, oAny, oSum, onB, onI, uIs, uIs2, isT, uCall, uCallP, pick, vw, vw1, okU, okX, nolU, nol, nols, startU, kOf, kQ, kT, onL, uSeqI, uRng1, uRng2, rOk, uEnum, uRep, uTupRev, uYes, ugN, ugT2, wipeU, setU, uIfQ, uRetQ, uSetQ, uPutQ, ixC, uPar, uAsgT, uChain, uCall0, sizeLine_eq, oMax2, oSortI, oStrI, oIsB, szD, List.map_cons, List.map_nil, List.length_cons, List.length_nil, List.replicate, List.cons_append, List.nil_append, List.getElem?_cons_zero, List.getElem?_cons_succ, List.set_cons_zero, List.set_cons_succ, Option.map_some, Option.map_none, List.getD, Option.getD_some, if_true, true_and, and_true, Nat.reduceAdd, Nat.reduceSub, reduceIte, Bool.false_eq_true, Bool.not_true, Bool.not_false]
  rw [hN]
  refine i_seq fun N2 hN2 => ?_
  refine i_for2 ?_
  simp [vw_jk, at_0, at_1, at_2, at_3, at_4, ix_40, ix_41, ix_42, ix_43, boolsD_comp, intsD_comp, sh_int, sh_bool, sh_none, sh_str, ev_int, ev_bool, ev_str, ev_none, ev_ni, ev_in, uIfS, evT, ev, uRet, uRetO, uRetN, uDrop, uSet, uSetO, uMove, uFrz, uNext, uBreak, uCont, uApp, uIns, uPut, uPutA, uAug, uRaise, uVar, uC, uOp, uUn, uTru, uTst, uNot, uAnd, uOr, uAndV, uOrV, uNotV, uIf, uNil, uCons, argU, uTup, uLst, allD, onDs, onD, onT, onBool, oI, oIC, oAdd, oEq, oIsN, isN_none, isN_int, isN_bool, isN_str, isN_list, isN_tup, truD, oIx, uSl, uPart, uNoP, oSl, uCB, oLen, oList, oTuple, oInt, oAbs, oAll, oAny, oSum, onB, onI, uIs, uIs2, isT, uCall, uCallP, pick, vw, vw1, okU, okX, nolU, nol, nols, startU, kOf, kQ, kT, onL, uSeqI, uRng1, uRng2, rOk, uEnum, uRep, uTupRev, uYes, ugN, ugT2, wipeU, setU, uIfQ, uRetQ, uSetQ, uPutQ, ixC, uPar, uAsgT, uChain, uCall0, sizeLine_eq, oMax2, oSortI, oStrI, oIsB, szD, List.map_cons, List.map_nil, List.length_cons, List.length_nil, List.replicate, List.cons_append, List.nil_append, List.getElem?_cons_zero, List.getElem?_cons_succ, List.set_cons_zero, List.set_cons_succ, Option.map_some, Option.map_none, List.getD, Option.getD_some, if_true, true_and, and_true, Nat.reduceAdd, Nat.reduceSub, reduceIte, Bool.false_eq_true, Bool.not_true, Bool.not_false]
  refine f_in (fun i s' => ∃ o : Option D, s' = [some (.d (.tuple (natD l))), some (.d (.int (prodN (l.take i) : Nat))), jk o]) ⟨none, rfl⟩ (fun i d s' e hi hs NX hNX => ?_) (fun s' hs => ?_)
  · obtain ⟨o, rfl⟩ := hs
    obtain ⟨a, rfl, ha⟩ := natD_get e
    simp [vw_jk, at_0, at_1, at_2, at_3, at_4, ix_40, ix_41, ix_42, ix_43, boolsD_comp, intsD_comp, sh_int, sh_bool, sh_none, sh_str, ev_int, ev_bool, ev_str, ev_none, ev_ni, ev_in, uIfS, evT, ev, uRet, uRetO, uRetN, uDrop, uSet, uSetO, uMove, uFrz, uNext, uBreak, uCont, uApp, uIns, uPut, uPutA, uAug, uRaise, uVar, uC, uOp, uUn, uTru, uTst, uNot, uAnd, uOr, uAndV, uOrV, uNotV, uIf, uNil, uCons, argU, uTup, uLst, allD, onDs, onD, onT, onBool, oI, oIC, oAdd, oEq, oIsN, isN_none, isN_int, isN_bool, isN_str, isN_list, isN_tup, truD, oIx, uSl, uPart, uNoP, oSl, uCB, oLen, oList, oTuple, oInt, oAbs, oAll, oAny, oSum, onB, onI, uIs, uIs2, isT, uCall, uCallP, pick, vw, vw1, okU, okX, nolU, nol, nols, startU, kOf, kQ, kT, onL, uSeqI, uRng1, uRng2, rOk, uEnum, uRep, uTupRev, uYes, ugN, ugT2, wipeU, setU, uIfQ, uRetQ, uSetQ, uPutQ, ixC, uPar, uAsgT, uChain, uCall0, sizeLine_eq, oMax2, oSortI, oStrI, oIsB, szD, List.map_cons, List.map_nil, List.length_cons, List.length_nil, List.replicate, List.cons_append, List.nil_append, List.getElem?_cons_zero, List.getElem?_cons_succ, List.set_cons_zero, List.set_cons_succ, Option.map_some, Option.map_none, List.getD, Option.getD_some, if_true, true_and, and_true, Nat.reduceAdd, Nat.reduceSub, reduceIte, Bool.false_eq_true, Bool.not_true, Bool.not_false]
    have hi := (List.getElem?_eq_some_iff.mp ha).1
    have ha2 := h2 a (List.mem_of_getElem? ha)
    refine ⟨mulN (a := 70 * (l.take i).length + 1) (b := 70) (by simpa using prodN_lt fun x hx => h2 x (List.mem_of_mem_take hx)) (by simpa using ha2) (by simp; omega) (by decide), ?_⟩
    exact hNX _ ⟨some (.int a), by rw [prodN_take ha]; simp [jk]⟩
  · obtain ⟨o, rfl⟩ := hs
    show N2 _
    rw [hN2]
    simp [vw_jk, at_0, at_1, at_2, at_3, at_4, ix_40, ix_41, ix_42, ix_43, boolsD_comp, intsD_comp, sh_int, sh_bool, sh_none, sh_str, ev_int, ev_bool, ev_str, ev_none, ev_ni, ev_in, uIfS, evT, ev, uRet, uRetO, uRetN, uDrop, uSet, uSetO, uMove, uFrz, uNext, uBreak, uCont, uApp, uIns, uPut, uPutA, uAug, uRaise, uVar, uC, uOp, uUn, uTru, uTst, uNot, uAnd, uOr, uAndV, uOrV, uNotV, uIf, uNil, uCons, argU, uTup, uLst, allD, onDs, onD, onT, onBool, oI, oIC, oAdd, oEq, oIsN, isN_none, isN_int, isN_bool, isN_str, isN_list, isN_tup, truD, oIx, uSl, uPart, uNoP, oSl, uCB, oLen, oList, oTuple, oInt, oAbs, oAll, oAny, oSum, onB, onI, uIs, uIs2, isT, uCall, uCallP, pick, vw, vw1, okU, okX, nolU, nol, nols, startU, kOf, kQ, kT, onL, uSeqI, uRng1, uRng2, rOk, uEnum, uRep, uTupRev, uYes, ugN, ugT2, wipeU, setU, uIfQ, uRetQ, uSetQ, uPutQ, ixC, uPar, uAsgT, uChain, uCall0, sizeLine_eq, oMax2, oSortI, oStrI, oIsB, szD, List.map_cons, List.map_nil, List.length_cons, List.length_nil, List.replicate, List.cons_append, List.nil_append, List.getElem?_cons_zero, List.getElem?_cons_succ, List.set_cons_zero, List.set_cons_succ, Option.map_some, Option.map_none, List.getD, Option.getD_some, if_true, true_and, and_true, Nat.reduceAdd, Nat.reduceSub, reduceIte, Bool.false_eq_true, Bool.not_true, Bool.not_false, natD_len]
    exact h3
theorem sc_factors_of : FnScope ["many", "pairs", "left", "prime", "exponent"] ["many"] (defScope s_factors_of) := ⟨rfl, rfl, rfl, by decide +kernel, rfl, by decide +kernel, by decide +kernel⟩
def pairD (x : Nat × Nat) : D := .tuple [.int (x.1 : Nat), .int (x.2 : Nat)]
def pairsD (l : List (Nat × Nat)) : List D := l.map pairD
def fn_factors_of : Fn := fun as P _ => ∃ n : Nat, as = [.d (.int n)] ∧ 0 < n ∧ n < 2 ^ 20 ∧ P (.d (.tuple (pairsD (facsN n))))
theorem strip_no {p f l : Nat} (h : l % p ≠ 0) : strip p f l = (0, l) := by
  cases f with
  | zero => rfl
  | succ f => unfold strip; rw [if_neg h]
theorem strip_yes {p f l : Nat} (h : l % p = 0) : strip p (f + 1) l = ((strip p f (l / p)).1 + 1, (strip p f (l / p)).2) := by
  conv => lhs; unfold strip
  rw [if_pos h]
theorem facs_no {f l p : Nat} (h : l < p * p) : facs f l p = lastF l := by
  cases f with
  | zero => rfl
  | succ f => unfold facs; rw [if_neg (by omega)]
theorem facs_yes {f l p : Nat} (h : p * p ≤ l) : facs (f + 1) l p = (if 0 < (strip p 20 l).1 then [(p, (strip p 20 l).1)] else []) ++ facs f (strip p 20 l).2 (p + 1) := by
  conv => lhs; unfold facs
  rw [if_pos h]
theorem pairsD_app (a b : List (Nat × Nat)) : pairsD (a ++ b) = pairsD a ++ pairsD b := by simp [pairsD]
theorem pairsD_len (a : List (Nat × Nat)) : (pairsD a).length = a.length := by simp [pairsD]
theorem nols_pairs (l : List (Nat × Nat)) : nols (pairsD l) = true := nols_map pairD (fun _ => rfl) l
theorem has_factors_of (T : Tk P K mg) : ∃ fd, Has P w K mg base 1 "factors_of" s_factors_of ["many"] fn_factors_of fd := by
  obtain ⟨fd, F⟩ := T.f_factors_of
  have hb := F.binds (ps := ["many"]) fun _ _ _ _ _ _ us hl => match us, hl with | [_], _ => rfl
  refine ⟨fd, T.g_factors_of, F.kp, F, hb, fnD F sc_factors_of (by decide) fun cdv A outer s H E hr => ⟨_, _, (dss_cons (ds_setO false 1 (de_lst da_nil) sc_factors_of.nd)
    (dss_cons (ds_set false 2 (dv 0) sc_factors_of.nd)
    (dss_cons (ds_set false 3 de_int sc_factors_of.nd)
    (dss_cons (ds_while false poD (dt_cmp do_le (de_op do_mul (dv 3) (dv 3)) (dv 2)) (dss_cons (ds_set false 4 de_int sc_factors_of.nd)
    (dss_cons (ds_while false poD (dt_cmp (do_eqk (KK := K) hr.units) (de_op do_mod (dv 2) (dv 3)) de_int) (dss_cons (ds_set false 2 (de_op do_fdiv (dv 2) (dv 3)) sc_factors_of.nd)
    (dss_one (ds_set false 4 (de_op (do_addk (KK := K)) (dv 4) de_int) sc_factors_of.nd))))
    (dss_cons (ds_if false (dt_cmp do_gt (dv 4) de_int) (dss_one (ds_appk (KK := K) false 1 (de_tup (da_cons (dv 3) (da_cons (dv 4) da_nil))))) dss_nil)
    (dss_one (ds_set false 3 (de_op (do_addk (KK := K)) (dv 3) de_int) sc_factors_of.nd))))))
    (dss_cons (ds_if false (dt_cmp do_gt (dv 2) de_int) (dss_one (ds_appk (KK := K) false 1 (de_tup (da_cons (dv 2) (da_cons de_int da_nil))))) dss_nil)
    (dss_one (ds_ret true (de_callTy (dc_tuplek (KK := K)) (by rfl) T.n_tuple bt_tuple (da_cons (dv 1) da_nil))))))))), ?_⟩⟩
  rintro as Q PX hl ⟨n, rfl, h0, h1, hp⟩
  refine i_seq fun N hN => ?_
  simp [vw_jk, at_0, at_1, at_2, at_3, at_4, ix_40, ix_41, ix_42, ix_43, boolsD_comp, intsD_comp, sh_int, sh_bool, sh_none, sh_str, ev_int, ev_bool, ev_str, ev_none, ev_ni, ev_in, uIfS, evT, ev, uRet, uRetO, uRetN, uDrop, uSet, uSetO, uMove, uFrz, uNext, uBreak, uCont, uApp, uIns, uPut, uPutA, uAug, uRaise, uVar, uC, uOp, uUn, uTru, uTst, uNot, uAnd, uOr, uAndV, uOrV, uNotV, uIf, uNil, uCons, argU, uTup, uLst, allD, onDs, onD, onT, onBool, oI, oIC, oAdd, oEq, oIsN, isN_none, isN_int, isN_bool, isN_str, isN_list, isN_tup, truD, oIx, uSl, uPart, uNoP, oSl, uCB, oLen, oList, oTuple, oInt, oAbs, oAll, oAny, oSum, onB, onI, uIs, uIs2, isT, uCall, uCallP, pick, vw, vw1, okU, okX, nolU, nol, nols, startU, kOf, kQ, kT, onL, uSeqI, uRng1, uRng2, rOk, uEnum, uRep, uTupRev, uYes, ugN, ugT2, wipeU, setU, uIfQ, uRetQ, uSetQ, uPutQ, ixC, uPar, uAsgT, uChain, uCall0, sizeLine_eq, oMax2, oSortI, oStrI, oIsB, szD, List.map_cons, List.map_nil, List.length_cons, List.length_nil, List.replicate, List.cons_append, List.nil_append, List.getElem?_cons_zero, List.getElem?_cons_succ, List.set_cons_zero, List.set_cons_succ, Option.map_some, Option.map_none, List.getD, Option.getD_some, if_true, true_and, and_true, Nat.reduceAdd, Nat.reduceSub, reduceIte, Bool.false_eq_true, Bool.not_true, Bool.not_false]
  rw [hN]
  refine i_seq fun N2 hN2 => ?_
  simp [vw_jk, at_0, at_1, at_2, at_3, at_4, ix_40, ix_41, ix_42, ix_43, boolsD_comp, intsD_comp, sh_int, sh_bool, sh_none, sh_str, ev_int, ev_bool, ev_str, ev_none, ev_ni, ev_in, uIfS, evT, ev, uRet, uRetO, uRetN, uDrop, uSet, uSetO, uMove, uFrz, uNext, uBreak, uCont, uApp, uIns, uPut, uPutA, uAug, uRaise, uVar, uC, uOp, uUn, uTru, uTst, uNot, uAnd, uOr, uAndV, uOrV, uNotV, uIf, uNil, uCons, argU, uTup, uLst, allD, onDs, onD, onT, onBool, oI, oIC, oAdd, oEq, oIsN, isN_none, isN_int, isN_bool, isN_str, isN_list, isN_tup, truD, oIx, uSl, uPart, uNoP, oSl, uCB, oLen, oList, oTuple, oInt, oAbs, oAll, oAny, oSum, onB, onI, uIs, uIs2, isT, uCall, uCallP, pick, vw, vw1, okU, okX, nolU, nol, nols, startU, kOf, kQ, kT, onL, uSeqI, uRng1, uRng2, rOk, uEnum, uRep, uTupRev, uYes, ugN, ugT2, wipeU, setU, uIfQ, uRetQ, uSetQ, uPutQ, ixC, uPar, uAsgT, uChain, uCall0, sizeLine_eq, oMax2, oSortI, oStrI, oIsB, szD, List.map_cons, List.map_nil, List.length_cons, List.length_nil, List.replicate, List.cons_append, List.nil_append, List.getElem?_cons_zero, List.getElem?_cons_succ, List.set_cons_zero, List.set_cons_succ, Option.map_some, Option.map_none, List.getD, Option.getD_some, if_true, true_and, and_true, Nat.reduceAdd, Nat.reduceSub, reduceIte, Bool.false_eq_true, Bool.not_true, Bool.not_false]
  rw [hN2]
  refine i_seq fun N3 hN3 => ?_
  simp [vw_jk, at_0, at_1, at_2, at_3, at_4, ix_40, ix_41, ix_42, ix_43, boolsD_comp, intsD_comp, sh_int, sh_bool, sh_none, sh_str, ev_int, ev_bool, ev_str, ev_none, ev_ni, ev_in, uIfS, evT, ev, uRet, uRetO, uRetN, uDrop, uSet, uSetO, uMove, uFrz, uNext, uBreak, uCont, uApp, uIns, uPut, uPutA, uAug, uRaise, uVar, uC, uOp, uUn, uTru, uTst, uNot, uAnd, uOr, uAndV, uOrV, uNotV, uIf, uNil, uCons, argU, uTup, uLst, allD, onDs, onD, onT, onBool, oI, oIC, oAdd, oEq, oIsN, isN_none, isN_int, isN_bool, isN_str, isN_list, isN_tup, truD, oIx, uSl, uPart, uNoP, oSl, uCB, oLen, oList, oTuple, oInt, oAbs, oAll, oAny, oSum, onB, onI, uIs, uIs2, isT, uCall, uCallP, pick, vw, vw1, okU, okX, nolU, nol, nols, startU, kOf, kQ, kT, onL, uSeqI, uRng1, uRng2, rOk, uEnum, uRep, uTupRev, uYes, ugN, ugT2, wipeU, setU, uIfQ, uRetQ, uSetQ, uPutQ, ixC, uPar, uAsgT, uChain, uCall0, sizeLine_eq, oMax2, oSortI, oStrI, oIsB, szD, List.map_cons, List.map_nil, List.length_cons, List.length_nil, List.replicate, List.cons_append, List.nil_append, List.getElem?_cons_zero, List.getElem?_cons_succ, List.set_cons_zero, List.set_cons_succ, Option.map_some, Option.map_none, List.getD, Option.getD_some, if_true, true_and, and_true, Nat.reduceAdd, Nat.reduceSub, reduceIte, Bool.false_eq_true, Bool.not_true, Bool.not_false]
  rw [hN3]
  refine i_seq fun N4 hN4 => ?_
  refine i_while (fun m s' => ∃ (done : List (Nat × Nat)) (l p : Nat) (o : Option D), m + p = 1025 ∧ s' = [some (.d (.int n)), some (.own (pairsD done)), some (.d (.int l)), some (.d (.int p)), jk o] ∧ done ++ facs m l p = facsN n ∧ 0 < l ∧ l < 2 ^ 20 ∧ 2 ≤ p ∧ done.length ≤ p)
    1023 ⟨[], n, 2, none, rfl, rfl, rfl, h0, h1, by decide, by decide⟩ ?_
  rintro m s' ⟨done, l, p, o, hm, rfl, hd, l0, l1, p2, hz⟩ NX hNX
  simp [vw_jk, at_0, at_1, at_2, at_3, at_4, ix_40, ix_41, ix_42, ix_43, boolsD_comp, intsD_comp, sh_int, sh_bool, sh_none, sh_str, ev_int, ev_bool, ev_str, ev_none, ev_ni, ev_in, uIfS, evT, ev, uRet, uRetO, uRetN, uDrop, uSet, uSetO, uMove, uFrz, uNext, uBreak, uCont, uApp, uIns, uPut, uPutA, uAug, uRaise, uVar, uC, uOp, uUn, uTru, uTst, uNot, uAnd, uOr, uAndV, uOrV, uNotV, uIf, uNil, uCons, argU, uTup, uLst, allD, onDs, onD, onT, onBool, oI, oIC, oAdd, oEq, oIsN, isN_none, isN_int, isN_bool, isN_str, isN_list, isN_tup, truD, oIx, uSl, uPart, uNoP, oSl, uCB, oLen, oList, oTuple, oInt, oAbs, oAll, oAny, oSum, onB, onI, uIs, uIs2, isT, uCall, uCallP, pick, vw, vw1, okU, okX, nolU, nol, nols, startU, kOf, kQ, kT, onL, uSeqI, uRng1, uRng2, rOk, uEnum, uRep, uTupRev, uYes, ugN, ugT2, wipeU, setU, uIfQ, uRetQ, uSetQ, uPutQ, ixC, uPar, uAsgT, uChain, uCall0, sizeLine_eq, oMax2, oSortI, oStrI, oIsB, szD, List.map_cons, List.map_nil, List.length_cons, List.length_nil, List.replicate, List.cons_append, List.nil_append, List.getElem?_cons_zero, List.getElem?_cons_succ, List.set_cons_zero, List.set_cons_succ, Option.map_some, Option.map_none, List.getD, Option.getD_some, if_true, true_and, and_true, Nat.reduceAdd, Nat.reduceSub, reduceIte, Bool.false_eq_true, Bool.not_true, Bool.not_false]
  have hp64 : p < 2000 := by omega
  refine ⟨mulR (by omega), ?_⟩
  have e1 : ((p : Int) * p ≤ l) ↔ p * p ≤ l := by
    rw [← Int.natCast_mul]; exact Int.ofNat_le
  simp only [e1]
  by_cases hpl : p * p ≤ l
  · rw [if_pos hpl]
    obtain ⟨m, rfl⟩ : ∃ m', m = m' + 1 := ⟨m - 1, by
      have : p < 1024 := by
        rcases Nat.lt_or_ge p 1024 with z | z
        · exact z
        · have := Nat.mul_le_mul z z; omega
      omega⟩
    rw [facs_yes hpl] at hd
    refine i_seq fun M1 hM1 => ?_
    simp [vw_jk, at_0, at_1, at_2, at_3, at_4, ix_40, ix_41, ix_42, ix_43, boolsD_comp, intsD_comp, sh_int, sh_bool, sh_none, sh_str, ev_int, ev_bool, ev_str, ev_none, ev_ni, ev_in, uIfS, evT, ev, uRet, uRetO, uRetN, uDrop, uSet, uSetO, uMove, uFrz, uNext, uBreak, uCont, uApp, uIns, uPut, uPutA, uAug, uRaise, uVar, uC, uOp, uUn, uTru, uTst, uNot, uAnd, uOr, uAndV, uOrV, uNotV, uIf, uNil, uCons, argU, uTup, uLst, allD, onDs, onD, onT, onBool, oI, oIC, oAdd, oEq, oIsN, isN_none, isN_int, isN_bool, isN_str, isN_list, isN_tup, truD, oIx, uSl, uPart, uNoP, oSl, uCB, oLen, oList, oTuple, oInt, oAbs, oAll, oAny, oSum, onB, onI, uIs, uIs2, isT, uCall, uCallP, pick, vw, vw1, okU, okX, nolU, nol, nols, startU, kOf, kQ, kT, onL, uSeqI, uRng1, uRng2, rOk, uEnum, uRep, uTupRev, uYes, ugN, ugT2, wipeU, setU, uIfQ, uRetQ, uSetQ, uPutQ, ixC, uPar, uAsgT, uChain, uCall0, sizeLine_eq, oMax2, oSortI, oStrI, oIsB, szD, List.map_cons, List.map_nil, List.length_cons, List.length_nil, List.replicate, List.cons_append, List.nil_append, List.getElem?_cons_zero, List.getElem?_cons_succ, List.set_cons_zero, List.set_cons_succ, Option.map_some, Option.map_none, List.getD, Option.getD_some, if_true, true_and, and_true, Nat.reduceAdd, Nat.reduceSub, reduceIte, Bool.false_eq_true, Bool.not_true, Bool.not_false]
    rw [hM1]
    refine i_seq fun M2 hM2 => ?_
    refine i_while (fun c s' => ∃ (f e : Nat), s' = [some (.d (.int n)), some (.own (pairsD done)), some (.d (.int c)), some (.d (.int p)), some (.d (.int e))] ∧ 0 < c ∧ c < 2 ^ f ∧ strip p 20 l = (e + (strip p f c).1, (strip p f c).2)) l ⟨20, 0, rfl, l0, l1, by simp⟩ ?_
    rintro c s' ⟨f, e, rfl, c0, c1, hs⟩ NX2 hNX2
    simp [vw_jk, at_0, at_1, at_2, at_3, at_4, ix_40, ix_41, ix_42, ix_43, boolsD_comp, intsD_comp, sh_int, sh_bool, sh_none, sh_str, ev_int, ev_bool, ev_str, ev_none, ev_ni, ev_in, uIfS, evT, ev, uRet, uRetO, uRetN, uDrop, uSet, uSetO, uMove, uFrz, uNext, uBreak, uCont, uApp, uIns, uPut, uPutA, uAug, uRaise, uVar, uC, uOp, uUn, uTru, uTst, uNot, uAnd, uOr, uAndV, uOrV, uNotV, uIf, uNil, uCons, argU, uTup, uLst, allD, onDs, onD, onT, onBool, oI, oIC, oAdd, oEq, oIsN, isN_none, isN_int, isN_bool, isN_str, isN_list, isN_tup, truD, oIx, uSl, uPart, uNoP, oSl, uCB, oLen, oList, oTuple, oInt, oAbs, oAll, oAny, oSum, onB, onI, uIs, uIs2, isT, uCall, uCallP, pick, vw, vw1, okU, okX, nolU, nol, nols, startU, kOf, kQ, kT, onL, uSeqI, uRng1, uRng2, rOk, uEnum, uRep, uTupRev, uYes, ugN, ugT2, wipeU, setU, uIfQ, uRetQ, uSetQ, uPutQ, ixC, uPar, uAsgT, uChain, uCall0, sizeLine_eq, oMax2, oSortI, oStrI, oIsB, szD, List.map_cons, List.map_nil, List.length_cons, List.length_nil, List.replicate, List.cons_append, List.nil_append, List.getElem?_cons_zero, List.getElem?_cons_succ, List.set_cons_zero, List.set_cons_succ, Option.map_some, Option.map_none, List.getD, Option.getD_some, if_true, true_and, and_true, Nat.reduceAdd, Nat.reduceSub, reduceIte, Bool.false_eq_true, Bool.not_true, Bool.not_false]
    refine ⟨by omega, ?_⟩
    have e2 : ((c : Int) % p = 0) ↔ c % p = 0 := by
      rw [← Int.natCast_emod]; omega
    simp only [e2]
    by_cases hc : c % p = 0
    · rw [if_pos hc]
      obtain ⟨f, rfl⟩ : ∃ f', f = f' + 1 := ⟨f - 1, by
        rcases Nat.eq_zero_or_pos f with z | z
        · subst z
          have : c = 0 := by simpa using c1
          omega
        · omega⟩
      rw [strip_yes hc] at hs
      have hd2 : p * (c / p) = c := by have := Nat.div_add_mod c p; omega
      have hq0 : 0 < c / p := by
        rcases Nat.eq_zero_or_pos (c / p) with z | z
        · rw [z] at hd2; omega
        · exact z
      have hq1 := Nat.mul_le_mul_right (c / p) p2
      simp [uSeq, vw_jk, at_0, at_1, at_2, at_3, at_4, ix_40, ix_41, ix_42, ix_43, boolsD_comp, intsD_comp, sh_int, sh_bool, sh_none, sh_str, ev_int, ev_bool, ev_str, ev_none, ev_ni, ev_in, uIfS, evT, ev, uRet, uRetO, uRetN, uDrop, uSet, uSetO, uMove, uFrz, uNext, uBreak, uCont, uApp, uIns, uPut, uPutA, uAug, uRaise, uVar, uC, uOp, uUn, uTru, uTst, uNot, uAnd, uOr, uAndV, uOrV, uNotV, uIf, uNil, uCons, argU, uTup, uLst, allD, onDs, onD, onT, onBool, oI, oIC, oAdd, oEq, oIsN, isN_none, isN_int, isN_bool, isN_str, isN_list, isN_tup, truD, oIx, uSl, uPart, uNoP, oSl, uCB, oLen, oList, oTuple, oInt, oAbs, oAll, oAny, oSum, onB, onI, uIs, uIs2, isT, uCall, uCallP, pick, vw, vw1, okU, okX, nolU, nol, nols, startU, kOf, kQ, kT, onL, uSeqI, uRng1, uRng2, rOk, uEnum, uRep, uTupRev, uYes, ugN, ugT2, wipeU, setU, uIfQ, uRetQ, uSetQ, uPutQ, ixC, uPar, uAsgT, uChain, uCall0, sizeLine_eq, oMax2, oSortI, oStrI, oIsB, szD, List.map_cons, List.map_nil, List.length_cons, List.length_nil, List.replicate, List.cons_append, List.nil_append, List.getElem?_cons_zero, List.getElem?_cons_succ, List.set_cons_zero, List.set_cons_succ, Option.map_some, Option.map_none, List.getD, Option.getD_some, if_true, true_and, and_true, Nat.reduceAdd, Nat.reduceSub, reduceIte, Bool.false_eq_true, Bool.not_true, Bool.not_false]
      refine ⟨divS (by omega) (by omega), ?_⟩
      exact hNX2 (c / p) _ (by omega) ⟨f, e + 1, by simp, hq0, by rw [Nat.pow_succ] at c1; omega, by rw [hs]; simp; omega⟩
    · rw [if_neg hc]
      rw [strip_no hc] at hs
      simp at hs
      rw [hM2]
      refine i_cut (fun s' => ∃ done', s' = [some (.d (.int n)), some (.own (pairsD done')), some (.d (.int c)), some (.d (.int p)), some (.d (.int e))] ∧ done' ++ facs m c (p + 1) = facsN n ∧ done'.length ≤ p + 1) ?_ ?_
      · rintro s' ⟨done', rfl, hd', hz'⟩
        simp [vw_jk, at_0, at_1, at_2, at_3, at_4, ix_40, ix_41, ix_42, ix_43, boolsD_comp, intsD_comp, sh_int, sh_bool, sh_none, sh_str, ev_int, ev_bool, ev_str, ev_none, ev_ni, ev_in, uIfS, evT, ev, uRet, uRetO, uRetN, uDrop, uSet, uSetO, uMove, uFrz, uNext, uBreak, uCont, uApp, uIns, uPut, uPutA, uAug, uRaise, uVar, uC, uOp, uUn, uTru, uTst, uNot, uAnd, uOr, uAndV, uOrV, uNotV, uIf, uNil, uCons, argU, uTup, uLst, allD, onDs, onD, onT, onBool, oI, oIC, oAdd, oEq, oIsN, isN_none, isN_int, isN_bool, isN_str, isN_list, isN_tup, truD, oIx, uSl, uPart, uNoP, oSl, uCB, oLen, oList, oTuple, oInt, oAbs, oAll, oAny, oSum, onB, onI, uIs, uIs2, isT, uCall, uCallP, pick, vw, vw1, okU, okX, nolU, nol, nols, startU, kOf, kQ, kT, onL, uSeqI, uRng1, uRng2, rOk, uEnum, uRep, uTupRev, uYes, ugN, ugT2, wipeU, setU, uIfQ, uRetQ, uSetQ, uPutQ, ixC, uPar, uAsgT, uChain, uCall0, sizeLine_eq, oMax2, oSortI, oStrI, oIsB, szD, List.map_cons, List.map_nil, List.length_cons, List.length_nil, List.replicate, List.cons_append, List.nil_append, List.getElem?_cons_zero, List.getElem?_cons_succ, List.set_cons_zero, List.set_cons_succ, Option.map_some, Option.map_none, List.getD, Option.getD_some, if_true, true_and, and_true, Nat.reduceAdd, Nat.reduceSub, reduceIte, Bool.false_eq_true, Bool.not_true, Bool.not_false]
        have hc1 : c ≤ l := by
          have := (strip_eq p2 20 l l0 l1).1
          rw [hs] at this
          simp at this
          have h3 := Nat.mul_le_mul_left c (Nat.one_le_pow e p (by omega))
          omega
        exact hNX m _ (by omega) ⟨done', c, p + 1, some (.int e), by omega, by simp [jk], hd', c0, by omega, by omega, hz'⟩
      · intro NN hNN
        simp [vw_jk, at_0, at_1, at_2, at_3, at_4, ix_40, ix_41, ix_42, ix_43, boolsD_comp, intsD_comp, sh_int, sh_bool, sh_none, sh_str, ev_int, ev_bool, ev_str, ev_none, ev_ni, ev_in, uIfS, evT, ev, uRet, uRetO, uRetN, uDrop, uSet, uSetO, uMove, uFrz, uNext, uBreak, uCont, uApp, uIns, uPut, uPutA, uAug, uRaise, uVar, uC, uOp, uUn, uTru, uTst, uNot, uAnd, uOr, uAndV, uOrV, uNotV, uIf, uNil, uCons, argU, uTup, uLst, allD, onDs, onD, onT, onBool, oI, oIC, oAdd, oEq, oIsN, isN_none, isN_int, isN_bool, isN_str, isN_list, isN_tup, truD, oIx, uSl, uPart, uNoP, oSl, uCB, oLen, oList, oTuple, oInt, oAbs, oAll, oAny, oSum, onB, onI, uIs, uIs2, isT, uCall, uCallP, pick, vw, vw1, okU, okX, nolU, nol, nols, startU, kOf, kQ, kT, onL, uSeqI, uRng1, uRng2, rOk, uEnum, uRep, uTupRev, uYes, ugN, ugT2, wipeU, setU, uIfQ, uRetQ, uSetQ, uPutQ, ixC, uPar, uAsgT, uChain, uCall0, sizeLine_eq, oMax2, oSortI, oStrI, oIsB, szD, List.map_cons, List.map_nil, List.length_cons, List.length_nil, List.replicate, List.cons_append, List.nil_append, List.getElem?_cons_zero, List.getElem?_cons_succ, List.set_cons_zero, List.set_cons_succ, Option.map_some, Option.map_none, List.getD, Option.getD_some, if_true, true_and, and_true, Nat.reduceAdd, Nat.reduceSub, reduceIte, Bool.false_eq_true, Bool.not_true, Bool.not_false]
        rw [hs] at hd
        by_cases he : 0 < e
        · simp [vw_jk, at_0, at_1, at_2, at_3, at_4, ix_40, ix_41, ix_42, ix_43, boolsD_comp, intsD_comp, sh_int, sh_bool, sh_none, sh_str, ev_int, ev_bool, ev_str, ev_none, ev_ni, ev_in, uIfS, evT, ev, uRet, uRetO, uRetN, uDrop, uSet, uSetO, uMove, uFrz, uNext, uBreak, uCont, uApp, uIns, uPut, uPutA, uAug, uRaise, uVar, uC, uOp, uUn, uTru, uTst, uNot, uAnd, uOr, uAndV, uOrV, uNotV, uIf, uNil, uCons, argU, uTup, uLst, allD, onDs, onD, onT, onBool, oI, oIC, oAdd, oEq, oIsN, isN_none, isN_int, isN_bool, isN_str, isN_list, isN_tup, truD, oIx, uSl, uPart, uNoP, oSl, uCB, oLen, oList, oTuple, oInt, oAbs, oAll, oAny, oSum, onB, onI, uIs, uIs2, isT, uCall, uCallP, pick, vw, vw1, okU, okX, nolU, nol, nols, startU, kOf, kQ, kT, onL, uSeqI, uRng1, uRng2, rOk, uEnum, uRep, uTupRev, uYes, ugN, ugT2, wipeU, setU, uIfQ, uRetQ, uSetQ, uPutQ, ixC, uPar, uAsgT, uChain, uCall0, sizeLine_eq, oMax2, oSortI, oStrI, oIsB, szD, List.map_cons, List.map_nil, List.length_cons, List.length_nil, List.replicate, List.cons_append, List.nil_append, List.getElem?_cons_zero, List.getElem?_cons_succ, List.set_cons_zero, List.set_cons_succ, Option.map_some, Option.map_none, List.getD, Option.getD_some, if_true, true_and, and_true, Nat.reduceAdd, Nat.reduceSub, reduceIte, Bool.false_eq_true, Bool.not_true, Bool.not_false, he]
          have : [PyData.tuple [PyData.int p, PyData.int e]] = pairsD [(p, e)] := rfl
          rw [this, ← pairsD_app, pairsD_len]
          refine ⟨by omega, hNN _ ⟨_, rfl, ?_, by simp; omega⟩⟩
          rw [List.append_assoc, ← hd]
          simp [he]
        · simp [vw_jk, at_0, at_1, at_2, at_3, at_4, ix_40, ix_41, ix_42, ix_43, boolsD_comp, intsD_comp, sh_int, sh_bool, sh_none, sh_str, ev_int, ev_bool, ev_str, ev_none, ev_ni, ev_in, uIfS, evT, ev, uRet, uRetO, uRetN, uDrop, uSet, uSetO, uMove, uFrz, uNext, uBreak, uCont, uApp, uIns, uPut, uPutA, uAug, uRaise, uVar, uC, uOp, uUn, uTru, uTst, uNot, uAnd, uOr, uAndV, uOrV, uNotV, uIf, uNil, uCons, argU, uTup, uLst, allD, onDs, onD, onT, onBool, oI, oIC, oAdd, oEq, oIsN, isN_none, isN_int, isN_bool, isN_str, isN_list, isN_tup, truD, oIx, uSl, uPart, uNoP, oSl, uCB, oLen, oList, oTuple, oInt, oAbs, oAll, oAny, oSum, onB, onI, uIs, uIs2, isT, uCall, uCallP, pick, vw, vw1, okU, okX, nolU, nol, nols, startU, kOf, kQ, kT, onL, uSeqI, uRng1, uRng2, rOk, uEnum, uRep, uTupRev, uYes, ugN, ugT2, wipeU, setU, uIfQ, uRetQ, uSetQ, uPutQ, ixC, uPar, uAsgT, uChain, uCall0, sizeLine_eq, oMax2, oSortI, oStrI, oIsB, szD, List.map_cons, List.map_nil, List.length_cons, List.length_nil, List.replicate, List.cons_append, List.nil_append, List.getElem?_cons_zero, List.getElem?_cons_succ, List.set_cons_zero, List.set_cons_succ, Option.map_some, Option.map_none, List.getD, Option.getD_some, if_true, true_and, and_true, Nat.reduceAdd, Nat.reduceSub, reduceIte, Bool.false_eq_true, Bool.not_true, Bool.not_false, he]
          refine hNN _ ⟨done, rfl, ?_, by omega⟩
          rw [← hd]
          simp [he]
  · rw [if_neg hpl]
    show N4 _
    rw [hN4]
    rw [facs_no (by omega)] at hd
    unfold lastF at hd
    refine i_seq fun N5 hN5 => ?_
    simp [vw_jk, at_0, at_1, at_2, at_3, at_4, ix_40, ix_41, ix_42, ix_43, boolsD_comp, intsD_comp, sh_int, sh_bool, sh_none, sh_str, ev_int, ev_bool, ev_str, ev_none, ev_ni, ev_in, uIfS, evT, ev, uRet, uRetO, uRetN, uDrop, uSet, uSetO, uMove, uFrz, uNext, uBreak, uCont, uApp, uIns, uPut, uPutA, uAug, uRaise, uVar, uC, uOp, uUn, uTru, uTst, uNot, uAnd, uOr, uAndV, uOrV, uNotV, uIf, uNil, uCons, argU, uTup, uLst, allD, onDs, onD, onT, onBool, oI, oIC, oAdd, oEq, oIsN, isN_none, isN_int, isN_bool, isN_str, isN_list, isN_tup, truD, oIx, uSl, uPart, uNoP, oSl, uCB, oLen, oList, oTuple, oInt, oAbs, oAll, oAny, oSum, onB, onI, uIs, uIs2, isT, uCall, uCallP, pick, vw, vw1, okU, okX, nolU, nol, nols, startU, kOf, kQ, kT, onL, uSeqI, uRng1, uRng2, rOk, uEnum, uRep, uTupRev, uYes, ugN, ugT2, wipeU, setU, uIfQ, uRetQ, uSetQ, uPutQ, ixC, uPar, uAsgT, uChain, uCall0, sizeLine_eq, oMax2, oSortI, oStrI, oIsB, szD, List.map_cons, List.map_nil, List.length_cons, List.length_nil, List.replicate, List.cons_append, List.nil_append, List.getElem?_cons_zero, List.getElem?_cons_succ, List.set_cons_zero, List.set_cons_succ, Option.map_some, Option.map_none, List.getD, Option.getD_some, if_true, true_and, and_true, Nat.reduceAdd, Nat.reduceSub, reduceIte, Bool.false_eq_true, Bool.not_true, Bool.not_false]
    by_cases h1l : 1 < l
    · rw [if_pos h1l] at hd
      rw [if_pos (show (1 : Int) < l by omega)]
      have : [PyData.tuple [PyData.int l, PyData.int 1]] = pairsD [(l, 1)] := rfl
      rw [this, ← pairsD_app, pairsD_len, hd, hN5]
      simp [vw_jk, at_0, at_1, at_2, at_3, at_4, ix_40, ix_41, ix_42, ix_43, boolsD_comp, intsD_comp, sh_int, sh_bool, sh_none, sh_str, ev_int, ev_bool, ev_str, ev_none, ev_ni, ev_in, uIfS, evT, ev, uRet, uRetO, uRetN, uDrop, uSet, uSetO, uMove, uFrz, uNext, uBreak, uCont, uApp, uIns, uPut, uPutA, uAug, uRaise, uVar, uC, uOp, uUn, uTru, uTst, uNot, uAnd, uOr, uAndV, uOrV, uNotV, uIf, uNil, uCons, argU, uTup, uLst, allD, onDs, onD, onT, onBool, oI, oIC, oAdd, oEq, oIsN, isN_none, isN_int, isN_bool, isN_str, isN_list, isN_tup, truD, oIx, uSl, uPart, uNoP, oSl, uCB, oLen, oList, oTuple, oInt, oAbs, oAll, oAny, oSum, onB, onI, uIs, uIs2, isT, uCall, uCallP, pick, vw, vw1, okU, okX, nolU, nol, nols, startU, kOf, kQ, kT, onL, uSeqI, uRng1, uRng2, rOk, uEnum, uRep, uTupRev, uYes, ugN, ugT2, wipeU, setU, uIfQ, uRetQ, uSetQ, uPutQ, ixC, uPar, uAsgT, uChain, uCall0, sizeLine_eq, oMax2, oSortI, oStrI, oIsB, szD, List.map_cons, List.map_nil, List.length_cons, List.length_nil, List.replicate, List.cons_append, List.nil_append, List.getElem?_cons_zero, List.getElem?_cons_succ, List.set_cons_zero, List.set_cons_succ, Option.map_some, Option.map_none, List.getD, Option.getD_some, if_true, true_and, and_true, Nat.reduceAdd, Nat.reduceSub, reduceIte, Bool.false_eq_true, Bool.not_true, Bool.not_false]
      exact ⟨by omega, nols_pairs _, hp⟩
    · rw [if_neg h1l] at hd
      rw [if_neg (show ¬ (1 : Int) < l by omega)]
      rw [hN5]
      simp at hd
      simp [vw_jk, at_0, at_1, at_2, at_3, at_4, ix_40, ix_41, ix_42, ix_43, boolsD_comp, intsD_comp, sh_int, sh_bool, sh_none, sh_str, ev_int, ev_bool, ev_str, ev_none, ev_ni, ev_in, uIfS, evT, ev, uRet, uRetO, uRetN, uDrop, uSet, uSetO, uMove, uFrz, uNext, uBreak, uCont, uApp, uIns, uPut, uPutA, uAug, uRaise, uVar, uC, uOp, uUn, uTru, uTst, uNot, uAnd, uOr, uAndV, uOrV, uNotV, uIf, uNil, uCons, argU, uTup, uLst, allD, onDs, onD, onT, onBool, oI, oIC, oAdd, oEq, oIsN, isN_none, isN_int, isN_bool, isN_str, isN_list, isN_tup, truD, oIx, uSl, uPart, uNoP, oSl, uCB, oLen, oList, oTuple, oInt, oAbs, oAll, oAny, oSum, onB, onI, uIs, uIs2, isT, uCall, uCallP, pick, vw, vw1, okU, okX, nolU, nol, nols, startU, kOf, kQ, kT, onL, uSeqI, uRng1, uRng2, rOk, uEnum, uRep, uTupRev, uYes, ugN, ugT2, wipeU, setU, uIfQ, uRetQ, uSetQ, uPutQ, ixC, uPar, uAsgT, uChain, uCall0, sizeLine_eq, oMax2, oSortI, oStrI, oIsB, szD, List.map_cons, List.map_nil, List.length_cons, List.length_nil, List.replicate, List.cons_append, List.nil_append, List.getElem?_cons_zero, List.getElem?_cons_succ, List.set_cons_zero, List.set_cons_succ, Option.map_some, Option.map_none, List.getD, Option.getD_some, if_true, true_and, and_true, Nat.reduceAdd, Nat.reduceSub, reduceIte, Bool.false_eq_true, Bool.not_true, Bool.not_false, hd]
      exact ⟨nols_pairs _, hp⟩
theorem sc_divisors_of : FnScope ["many", "found", "prime", "exponent", "layer", "_", "divisor"] ["many"] (defScope s_divisors_of) := ⟨rfl, rfl, rfl, by decide +kernel, rfl, by decide +kernel, by decide +kernel⟩
def fn_divisors_of : Fn := fun as P _ => ∃ n : Nat, as = [.d (.int n)] ∧ 0 < n ∧ n ≤ 1000000 ∧ P (.d (.tuple (natD (lowL n 1000 ++ highL n 1000))))
theorem layers_succ (p : Nat) : ∀ (e : Nat) (found layer : List Nat), layers p (e + 1) found layer = layers p e (found ++ layer.map (· * p)) (layer.map (· * p)) := fun _ _ _ => rfl
def layIt (p : Nat) : Nat → List Nat × List Nat → List Nat × List Nat
  | 0, x => x
  | e + 1, x => (fun y : List Nat × List Nat => (y.1 ++ y.2.map (· * p), y.2.map (· * p))) (layIt p e x)
theorem layIt_next (p : Nat) : ∀ (e : Nat) (x : List Nat × List Nat), layIt p (e + 1) x = layIt p e (x.1 ++ x.2.map (· * p), x.2.map (· * p))
  | 0, _ => rfl
  | e + 1, x => by
    show (fun y : List Nat × List Nat => (y.1 ++ y.2.map (· * p), y.2.map (· * p))) (layIt p (e + 1) x) = _
    rw [layIt_next p e x]; rfl
theorem layIt_eq (p : Nat) : ∀ (e : Nat) (x : List Nat × List Nat), (layIt p e x).1 = layers p e x.1 x.2
  | 0, _ => rfl
  | e + 1, x => by rw [layIt_next, layIt_eq p e]; rfl
theorem layIt_len (p : Nat) : ∀ (e : Nat) (x : List Nat × List Nat), (layIt p e x).2.length = x.2.length ∧ (layIt p e x).1.length = x.1.length + e * x.2.length
  | 0, x => by simp [layIt]
  | e + 1, x => by
    obtain ⟨a, b⟩ := layIt_len p e x
    show ((layIt p e x).2.map _).length = _ ∧ ((layIt p e x).1 ++ (layIt p e x).2.map _).length = _
    rw [List.length_map, List.length_append, List.length_map, a, b, Nat.add_mul]
    exact ⟨rfl, by omega⟩
theorem divsF_app : ∀ (l m : List (Nat × Nat)) (f : List Nat), divsF (l ++ m) f = divsF m (divsF l f)
  | [], _, _ => rfl
  | (p, e) :: l, m, f => by show divsF (l ++ m) _ = divsF m (divsF l _); rw [divsF_app l m]
theorem natD_app (a b : List Nat) : natD (a ++ b) = natD a ++ natD b := by simp [natD]
theorem natD_ints (a : List Nat) : natD a = (a.map (fun n : Nat => (n : Int))).map PyData.int := by simp [natD]
/-- a prefix's divisors are few -/
theorem IsF.pre : ∀ {lo : Nat} {l : List (Nat × Nat)} (i : Nat), IsF lo l → IsF lo (l.take i)
  | _, [], i, _ => by simp [IsF]
  | _, (p, e) :: l, 0, _ => trivial
  | _, (p, e) :: l, i + 1, h => ⟨h.1, h.2.1, h.2.2.1, h.2.2.2.1, IsF.pre i h.2.2.2.2⟩
theorem prodF_app : ∀ (l m : List (Nat × Nat)), prodF (l ++ m) = prodF l * prodF m
  | [], _ => by simp [prodF]
  | (p, e) :: l, m => by show p ^ e * prodF (l ++ m) = p ^ e * prodF l * prodF m; rw [prodF_app l m, Nat.mul_assoc]
theorem nodup_le : ∀ {B : Nat} {l : List Nat}, l.Nodup → (∀ x ∈ l, x < B) → l.length ≤ B
  | 0, l, _, hb => by
    cases l with
    | nil => simp
    | cons a l => exact absurd (hb a (.head _)) (by omega)
  | B + 1, l, h, hb => by
    by_cases hm : B ∈ l
    · have h1 := nodup_le (B := B) (l := l.erase B) (h.erase B) fun x hx => by
        have h2 := (h.mem_erase_iff).mp hx
        have := hb x h2.2
        have := h2.1
        omega
      rw [List.length_erase_of_mem hm] at h1
      omega
    · have := nodup_le (B := B) h fun x hx => by
        have h2 := hb x hx
        have : x ≠ B := fun z => hm (z ▸ hx)
        omega
      omega
theorem divs_len {n i : Nat} (h0 : 0 < n) (h1 : n < 2 ^ 20) : (divsF ((facsN n).take i) [1]).length ≤ 2 ^ 20 := by
  obtain ⟨a, b⟩ := facsN_ok h0 h1
  have c := divsF_isD (m := 1) (found := [1]) (a.pre i) (by decide) (fun q _ hq z => by have := hq.1; have := Nat.dvd_one.mp z; omega) ⟨by simp, fun d => by simp⟩
  rw [Nat.one_mul] at c
  have hp := prodF_pos (a.pre i)
  have hd : prodF ((facsN n).take i) ≤ n := by
    have h3 := prodF_app ((facsN n).take i) ((facsN n).drop i)
    rw [List.take_append_drop, b] at h3
    have : 0 < prodF ((facsN n).drop i) := by
      rcases Nat.eq_zero_or_pos (prodF ((facsN n).drop i)) with z | z
      · rw [z] at h3; omega
      · exact z
    have := Nat.mul_le_mul_left (prodF ((facsN n).take i)) (show 1 ≤ prodF ((facsN n).drop i) from this)
    omega
  refine nodup_le c.1 fun x hx => ?_
  have := Nat.le_of_dvd hp ((c.2 x).mp hx)
  omega
theorem IsF.mem {B : Nat} : ∀ {lo : Nat} {l : List (Nat × Nat)}, prodF l < B → IsF lo l → ∀ {x : Nat × Nat}, x ∈ l → 2 ≤ x.1 ∧ x.1 < B
  | _, [], _, _, _, hx => by cases hx
  | lo, (p, e) :: l, hb, h, x, hx => by
    obtain ⟨h1, h2, h3, h4, h5⟩ := h
    have hp := prodF_pos h5
    have hpp : p ≤ p ^ e := by
      have := Nat.pow_le_pow_right (n := p) (by have := h2.1; omega) h3
      simpa using this
    have hb' : p ^ e * prodF l < B := hb
    have k1 := Nat.mul_le_mul_left (p ^ e) (show 1 ≤ prodF l from hp)
    have k2 := Nat.mul_le_mul_right (prodF l) (show 1 ≤ p ^ e by have := h2.1; omega)
    cases hx with
    | head => exact ⟨h2.1, by show p < B; omega⟩
    | tail _ hx => exact IsF.mem (B := B) (by omega) h5 hx
theorem IsF.ex : ∀ {lo : Nat} {l : List (Nat × Nat)}, IsF lo l → ∀ {x : Nat × Nat}, x ∈ l → x.2 ≤ 20
  | _, [], _, _, hx => by cases hx
  | _, (p, e) :: l, h, x, hx => by
    cases hx with
    | head => exact h.2.2.2.1
    | tail _ hx => exact IsF.ex h.2.2.2.2 hx
theorem has_divisors_of (T : Tk P K mg) {fd_factors_of : FuncData} (h_factors_of : Has P w K mg base 1 "factors_of" s_factors_of ["many"] fn_factors_of fd_factors_of) : ∃ fd, Has P w K mg base 2 "divisors_of" s_divisors_of ["many"] fn_divisors_of fd := by
  obtain ⟨fd, F⟩ := T.f_divisors_of
  have hb := F.binds (ps := ["many"]) fun _ _ _ _ _ _ us hl => match us, hl with | [_], _ => rfl
  refine ⟨fd, T.g_divisors_of, F.kp, F, hb, fnD F sc_divisors_of (by decide) fun cdv A outer s H E hr => ⟨_, _, (dss_cons (ds_set false 1 (de_lst (da_cons de_int da_nil)) sc_divisors_of.nd)
    (dss_cons (ds_for poD rfl (di_seqk (KK := K) (de_own h_factors_of ⟨rfl, rfl, rfl, rfl, rfl⟩ (hr.mono (by decide)) rfl airD (da_cons (dv 0) da_nil))) (dg_tup2k (KK := K) 2 3 rfl sc_divisors_of.nd) (dss_cons (ds_set false 4 (dv 1) sc_divisors_of.nd)
    (dss_one (ds_for poD rfl (di_rng1 (dv 3) rfl T.n_range) (dg_name 5 sc_divisors_of.nd) (dss_cons (ds_setLc (i := 4) false rfl sc_divisors_of.nd rfl rfl rfl (own := [("divisor", 6)]) (di_seqk (KK := K) (dv 4)) (blk_of (by kernel_rfl)) (fun _ _ _ _ _ => (dg_name 6 sc_divisors_of.nd)) (fun _ _ _ _ _ => dts_nil) (fun _ _ _ _ _ => (de_op do_mul (dv 6) (dv 2))))
    (dss_one (ds_set false 1 (de_op (do_addk (KK := K)) (dv 1) (dv 4)) sc_divisors_of.nd)))))))
    (dss_one (ds_ret false (de_callTy (dc_tuplek (KK := K)) (by rfl) T.n_tuple bt_tuple (da_cons (de_callB dc_sortI (by rfl) T.n_sorted bt_sorted (da_cons (dv 1) da_nil)) da_nil)))))), ?_⟩⟩
  rintro as Q PX hl ⟨n, rfl, h0, h1, hp⟩
  have hF := (facsN_ok h0 (show n < 2 ^ 20 by omega)).1
  have hB := (facsN_ok h0 (show n < 2 ^ 20 by omega)).2
  have hge : ∀ x ∈ facsN n, 2 ≤ x.1 ∧ x.1 < 2 ^ 64 := fun x hx => IsF.mem (by rw [hB]; omega) hF hx
  have hex : ∀ x ∈ facsN n, x.2 ≤ 20 := fun x hx => IsF.ex hF hx
  refine i_seq fun N hN => ?_
  simp [vw_jk, at_0, at_1, at_2, at_3, at_4, ix_40, ix_41, ix_42, ix_43, boolsD_comp, intsD_comp, sh_int, sh_bool, sh_none, sh_str, ev_int, ev_bool, ev_str, ev_none, ev_ni, ev_in, uIfS, evT, ev, uRet, uRetO, uRetN, uDrop, uSet, uSetO, uMove, uFrz, uNext, uBreak, uCont, uApp, uIns, uPut, uPutA, uAug, uRaise, uVar, uC, uOp, uUn, uTru, uTst, uNot, uAnd, uOr, uAndV, uOrV, uNotV, uIf, uNil, uCons, argU, uTup, uLst, allD, onDs, onD, onT, onBool, oI, oIC, oAdd, oEq, oIsN, isN_none, isN_int, isN_bool, isN_str, isN_list, isN_tup, truD, oIx, uSl, uPart, uNoP, oSl, uCB, oLen, oList, oTuple, oInt, oAbs, oAll, oAny, oSum, onB, onI, uIs, uIs2, isT, uCall, uCallP, pick, vw, vw1, okU, okX, nolU, nol, nols, startU, kOf, kQ, kT, onL, uSeqI, uRng1, uRng2, rOk, uEnum, uRep, uTupRev, uYes, ugN, ugT2, wipeU, setU, uIfQ, uRetQ, uSetQ, uPutQ, ixC, uPar, uAsgT, uChain, uCall0, sizeLine_eq, oMax2, oSortI, oStrI, oIsB, szD, List.map_cons, List.map_nil, List.length_cons, List.length_nil, List.replicate, List.cons_append, List.nil_append, List.getElem?_cons_zero, List.getElem?_cons_succ, List.set_cons_zero, List.set_cons_succ, Option.map_some, Option.map_none, List.getD, Option.getD_some, if_true, true_and, and_true, Nat.reduceAdd, Nat.reduceSub, reduceIte, Bool.false_eq_true, Bool.not_true, Bool.not_false]
  rw [hN]
  refine i_seq fun N2 hN2 => ?_
  refine i_for2 ?_
  simp [vw_jk, at_0, at_1, at_2, at_3, at_4, ix_40, ix_41, ix_42, ix_43, boolsD_comp, intsD_comp, sh_int, sh_bool, sh_none, sh_str, ev_int, ev_bool, ev_str, ev_none, ev_ni, ev_in, uIfS, evT, ev, uRet, uRetO, uRetN, uDrop, uSet, uSetO, uMove, uFrz, uNext, uBreak, uCont, uApp, uIns, uPut, uPutA, uAug, uRaise, uVar, uC, uOp, uUn, uTru, uTst, uNot, uAnd, uOr, uAndV, uOrV, uNotV, uIf, uNil, uCons, argU, uTup, uLst, allD, onDs, onD, onT, onBool, oI, oIC, oAdd, oEq, oIsN, isN_none, isN_int, isN_bool, isN_str, isN_list, isN_tup, truD, oIx, uSl, uPart, uNoP, oSl, uCB, oLen, oList, oTuple, oInt, oAbs, oAll, oAny, oSum, onB, onI, uIs, uIs2, isT, uCall, uCallP, pick, vw, vw1, okU, okX, nolU, nol, nols, startU, kOf, kQ, kT, onL, uSeqI, uRng1, uRng2, rOk, uEnum, uRep, uTupRev, uYes, ugN, ugT2, wipeU, setU, uIfQ, uRetQ, uSetQ, uPutQ, ixC, uPar, uAsgT, uChain, uCall0, sizeLine_eq, oMax2, oSortI, oStrI, oIsB, szD, List.map_cons, List.map_nil, List.length_cons, List.length_nil, List.replicate, List.cons_append, List.nil_append, List.getElem?_cons_zero, List.getElem?_cons_succ, List.set_cons_zero, List.set_cons_succ, Option.map_some, Option.map_none, List.getD, Option.getD_some, if_true, true_and, and_true, Nat.reduceAdd, Nat.reduceSub, reduceIte, Bool.false_eq_true, Bool.not_true, Bool.not_false]
  refine ⟨n, rfl, h0, by omega, ?_⟩
  simp [vw_jk, at_0, at_1, at_2, at_3, at_4, ix_40, ix_41, ix_42, ix_43, boolsD_comp, intsD_comp, sh_int, sh_bool, sh_none, sh_str, ev_int, ev_bool, ev_str, ev_none, ev_ni, ev_in, uIfS, evT, ev, uRet, uRetO, uRetN, uDrop, uSet, uSetO, uMove, uFrz, uNext, uBreak, uCont, uApp, uIns, uPut, uPutA, uAug, uRaise, uVar, uC, uOp, uUn, uTru, uTst, uNot, uAnd, uOr, uAndV, uOrV, uNotV, uIf, uNil, uCons, argU, uTup, uLst, allD, onDs, onD, onT, onBool, oI, oIC, oAdd, oEq, oIsN, isN_none, isN_int, isN_bool, isN_str, isN_list, isN_tup, truD, oIx, uSl, uPart, uNoP, oSl, uCB, oLen, oList, oTuple, oInt, oAbs, oAll, oAny, oSum, onB, onI, uIs, uIs2, isT, uCall, uCallP, pick, vw, vw1, okU, okX, nolU, nol, nols, startU, kOf, kQ, kT, onL, uSeqI, uRng1, uRng2, rOk, uEnum, uRep, uTupRev, uYes, ugN, ugT2, wipeU, setU, uIfQ, uRetQ, uSetQ, uPutQ, ixC, uPar, uAsgT, uChain, uCall0, sizeLine_eq, oMax2, oSortI, oStrI, oIsB, szD, List.map_cons, List.map_nil, List.length_cons, List.length_nil, List.replicate, List.cons_append, List.nil_append, List.getElem?_cons_zero, List.getElem?_cons_succ, List.set_cons_zero, List.set_cons_succ, Option.map_some, Option.map_none, List.getD, Option.getD_some, if_true, true_and, and_true, Nat.reduceAdd, Nat.reduceSub, reduceIte, Bool.false_eq_true, Bool.not_true, Bool.not_false]
  refine f_in (fun i s' => ∃ o1 o2 o3 o4 o5 : Option D, s' = [some (.d (.int n)), some (.d (.list (natD (divsF ((facsN n).take i) [1])))), jk o1, jk o2, jk o3, jk o4, jk o5]) ⟨none, none, none, none, none, rfl⟩ (fun i d s' e hi hs NX hNX => ?_) (fun s' hs => ?_)
  · obtain ⟨o1, o2, o3, o4, o5, rfl⟩ := hs
    unfold pairsD at e
    rw [List.getElem?_map] at e
    obtain ⟨⟨p, x⟩, h2, rfl⟩ := Option.map_eq_some_iff.mp e
    obtain ⟨p2, p3⟩ := hge _ (List.mem_of_getElem? h2)
    have x2 := hex _ (List.mem_of_getElem? h2)
    have hlen := divs_len (i := i) h0 (show n < 2 ^ 20 by omega)
    have hlen2 := divs_len (i := i + 1) h0 (show n < 2 ^ 20 by omega)
    have e3 : divsF ((facsN n).take (i + 1)) [1] = layers p x (divsF ((facsN n).take i) [1]) (divsF ((facsN n).take i) [1]) := by
      rw [List.take_succ, h2, divsF_app]; rfl
    generalize hf : divsF ((facsN n).take i) [1] = f at *
    simp [vw_jk, at_0, at_1, at_2, at_3, at_4, ix_40, ix_41, ix_42, ix_43, boolsD_comp, intsD_comp, sh_int, sh_bool, sh_none, sh_str, ev_int, ev_bool, ev_str, ev_none, ev_ni, ev_in, uIfS, evT, ev, uRet, uRetO, uRetN, uDrop, uSet, uSetO, uMove, uFrz, uNext, uBreak, uCont, uApp, uIns, uPut, uPutA, uAug, uRaise, uVar, uC, uOp, uUn, uTru, uTst, uNot, uAnd, uOr, uAndV, uOrV, uNotV, uIf, uNil, uCons, argU, uTup, uLst, allD, onDs, onD, onT, onBool, oI, oIC, oAdd, oEq, oIsN, isN_none, isN_int, isN_bool, isN_str, isN_list, isN_tup, truD, oIx, uSl, uPart, uNoP, oSl, uCB, oLen, oList, oTuple, oInt, oAbs, oAll, oAny, oSum, onB, onI, uIs, uIs2, isT, uCall, uCallP, pick, vw, vw1, okU, okX, nolU, nol, nols, startU, kOf, kQ, kT, onL, uSeqI, uRng1, uRng2, rOk, uEnum, uRep, uTupRev, uYes, ugN, ugT2, wipeU, setU, uIfQ, uRetQ, uSetQ, uPutQ, ixC, uPar, uAsgT, uChain, uCall0, sizeLine_eq, oMax2, oSortI, oStrI, oIsB, szD, List.map_cons, List.map_nil, List.length_cons, List.length_nil, List.replicate, List.cons_append, List.nil_append, List.getElem?_cons_zero, List.getElem?_cons_succ, List.set_cons_zero, List.set_cons_succ, Option.map_some, Option.map_none, List.getD, Option.getD_some, if_true, true_and, and_true, Nat.reduceAdd, Nat.reduceSub, reduceIte, Bool.false_eq_true, Bool.not_true, Bool.not_false, pairD]
    refine i_seq fun N3 hN3 => ?_
    simp [vw_jk, at_0, at_1, at_2, at_3, at_4, ix_40, ix_41, ix_42, ix_43, boolsD_comp, intsD_comp, sh_int, sh_bool, sh_none, sh_str, ev_int, ev_bool, ev_str, ev_none, ev_ni, ev_in, uIfS, evT, ev, uRet, uRetO, uRetN, uDrop, uSet, uSetO, uMove, uFrz, uNext, uBreak, uCont, uApp, uIns, uPut, uPutA, uAug, uRaise, uVar, uC, uOp, uUn, uTru, uTst, uNot, uAnd, uOr, uAndV, uOrV, uNotV, uIf, uNil, uCons, argU, uTup, uLst, allD, onDs, onD, onT, onBool, oI, oIC, oAdd, oEq, oIsN, isN_none, isN_int, isN_bool, isN_str, isN_list, isN_tup, truD, oIx, uSl, uPart, uNoP, oSl, uCB, oLen, oList, oTuple, oInt, oAbs, oAll, oAny, oSum, onB, onI, uIs, uIs2, isT, uCall, uCallP, pick, vw, vw1, okU, okX, nolU, nol, nols, startU, kOf, kQ, kT, onL, uSeqI, uRng1, uRng2, rOk, uEnum, uRep, uTupRev, uYes, ugN, ugT2, wipeU, setU, uIfQ, uRetQ, uSetQ, uPutQ, ixC, uPar, uAsgT, uChain, uCall0, sizeLine_eq, oMax2, oSortI, oStrI, oIsB, szD, List.map_cons, List.map_nil, List.length_cons, List.length_nil, List.replicate, List.cons_append, List.nil_append, List.getElem?_cons_zero, List.getElem?_cons_succ, List.set_cons_zero, List.set_cons_succ, Option.map_some, Option.map_none, List.getD, Option.getD_some, if_true, true_and, and_true, Nat.reduceAdd, Nat.reduceSub, reduceIte, Bool.false_eq_true, Bool.not_true, Bool.not_false]
    rw [hN3]
    refine i_for2 ?_
    simp [vw_jk, at_0, at_1, at_2, at_3, at_4, ix_40, ix_41, ix_42, ix_43, boolsD_comp, intsD_comp, sh_int, sh_bool, sh_none, sh_str, ev_int, ev_bool, ev_str, ev_none, ev_ni, ev_in, uIfS, evT, ev, uRet, uRetO, uRetN, uDrop, uSet, uSetO, uMove, uFrz, uNext, uBreak, uCont, uApp, uIns, uPut, uPutA, uAug, uRaise, uVar, uC, uOp, uUn, uTru, uTst, uNot, uAnd, uOr, uAndV, uOrV, uNotV, uIf, uNil, uCons, argU, uTup, uLst, allD, onDs, onD, onT, onBool, oI, oIC, oAdd, oEq, oIsN, isN_none, isN_int, isN_bool, isN_str, isN_list, isN_tup, truD, oIx, uSl, uPart, uNoP, oSl, uCB, oLen, oList, oTuple, oInt, oAbs, oAll, oAny, oSum, onB, onI, uIs, uIs2, isT, uCall, uCallP, pick, vw, vw1, okU, okX, nolU, nol, nols, startU, kOf, kQ, kT, onL, uSeqI, uRng1, uRng2, rOk, uEnum, uRep, uTupRev, uYes, ugN, ugT2, wipeU, setU, uIfQ, uRetQ, uSetQ, uPutQ, ixC, uPar, uAsgT, uChain, uCall0, sizeLine_eq, oMax2, oSortI, oStrI, oIsB, szD, List.map_cons, List.map_nil, List.length_cons, List.length_nil, List.replicate, List.cons_append, List.nil_append, List.getElem?_cons_zero, List.getElem?_cons_succ, List.set_cons_zero, List.set_cons_succ, Option.map_some, Option.map_none, List.getD, Option.getD_some, if_true, true_and, and_true, Nat.reduceAdd, Nat.reduceSub, reduceIte, Bool.false_eq_true, Bool.not_true, Bool.not_false]
    refine ⟨by omega, ?_⟩
    have hx20 : ∀ j ≤ x, (layIt p j (f, f)).1.length ≤ 2 ^ 20 ∧ (layIt p j (f, f)).2.length ≤ 2 ^ 20 := fun j hj => by
      obtain ⟨a1, a2⟩ := layIt_len p j (f, f)
      obtain ⟨b1, b2⟩ := layIt_len p x (f, f)
      rw [layIt_eq] at b2
      rw [e3] at hlen2
      have := Nat.mul_le_mul_right f.length hj
      simp at a1 a2 b2
      omega
    refine f_in (fun j s' => ∃ o4 o5 : Option D, s' = [some (.d (.int n)), some (.d (.list (natD (layIt p j (f, f)).1))), some (.d (.int p)), some (.d (.int x)), some (.d (.list (natD (layIt p j (f, f)).2))), jk o4, jk o5]) ⟨o4, o5, rfl⟩ (fun j d s' e hj hs NX2 hNX2 => ?_) (fun s' hs => ?_)
    · obtain ⟨o4, o5, rfl⟩ := hs
      have hj2 : j < x := by simpa [rngD_len] using hj
      obtain ⟨c1, c2⟩ := hx20 j (by omega)
      obtain ⟨c3, c4⟩ := hx20 (j + 1) (by omega)
      refine ⟨_, rfl, ?_⟩
      refine i_seq fun N4 hN4 => ?_
      simp [vw_jk, at_0, at_1, at_2, at_3, at_4, ix_40, ix_41, ix_42, ix_43, boolsD_comp, intsD_comp, sh_int, sh_bool, sh_none, sh_str, ev_int, ev_bool, ev_str, ev_none, ev_ni, ev_in, uIfS, evT, ev, uRet, uRetO, uRetN, uDrop, uSet, uSetO, uMove, uFrz, uNext, uBreak, uCont, uApp, uIns, uPut, uPutA, uAug, uRaise, uVar, uC, uOp, uUn, uTru, uTst, uNot, uAnd, uOr, uAndV, uOrV, uNotV, uIf, uNil, uCons, argU, uTup, uLst, allD, onDs, onD, onT, onBool, oI, oIC, oAdd, oEq, oIsN, isN_none, isN_int, isN_bool, isN_str, isN_list, isN_tup, truD, oIx, uSl, uPart, uNoP, oSl, uCB, oLen, oList, oTuple, oInt, oAbs, oAll, oAny, oSum, onB, onI, uIs, uIs2, isT, uCall, uCallP, pick, vw, vw1, okU, okX, nolU, nol, nols, startU, kOf, kQ, kT, onL, uSeqI, uRng1, uRng2, rOk, uEnum, uRep, uTupRev, uYes, ugN, ugT2, wipeU, setU, uIfQ, uRetQ, uSetQ, uPutQ, ixC, uPar, uAsgT, uChain, uCall0, sizeLine_eq, oMax2, oSortI, oStrI, oIsB, szD, List.map_cons, List.map_nil, List.length_cons, List.length_nil, List.replicate, List.cons_append, List.nil_append, List.getElem?_cons_zero, List.getElem?_cons_succ, List.set_cons_zero, List.set_cons_succ, Option.map_some, Option.map_none, List.getD, Option.getD_some, if_true, true_and, and_true, Nat.reduceAdd, Nat.reduceSub, reduceIte, Bool.false_eq_true, Bool.not_true, Bool.not_false]
      refine i_lc ?_
      simp [vw_jk, at_0, at_1, at_2, at_3, at_4, ix_40, ix_41, ix_42, ix_43, boolsD_comp, intsD_comp, sh_int, sh_bool, sh_none, sh_str, ev_int, ev_bool, ev_str, ev_none, ev_ni, ev_in, uIfS, evT, ev, uRet, uRetO, uRetN, uDrop, uSet, uSetO, uMove, uFrz, uNext, uBreak, uCont, uApp, uIns, uPut, uPutA, uAug, uRaise, uVar, uC, uOp, uUn, uTru, uTst, uNot, uAnd, uOr, uAndV, uOrV, uNotV, uIf, uNil, uCons, argU, uTup, uLst, allD, onDs, onD, onT, onBool, oI, oIC, oAdd, oEq, oIsN, isN_none, isN_int, isN_bool, isN_str, isN_list, isN_tup, truD, oIx, uSl, uPart, uNoP, oSl, uCB, oLen, oList, oTuple, oInt, oAbs, oAll, oAny, oSum, onB, onI, uIs, uIs2, isT, uCall, uCallP, pick, vw, vw1, okU, okX, nolU, nol, nols, startU, kOf, kQ, kT, onL, uSeqI, uRng1, uRng2, rOk, uEnum, uRep, uTupRev, uYes, ugN, ugT2, wipeU, setU, uIfQ, uRetQ, uSetQ, uPutQ, ixC, uPar, uAsgT, uChain, uCall0, sizeLine_eq, oMax2, oSortI, oStrI, oIsB, szD, List.map_cons, List.map_nil, List.length_cons, List.length_nil, List.replicate, List.cons_append, List.nil_append, List.getElem?_cons_zero, List.getElem?_cons_succ, List.set_cons_zero, List.set_cons_succ, Option.map_some, Option.map_none, List.getD, Option.getD_some, if_true, true_and, and_true, Nat.reduceAdd, Nat.reduceSub, reduceIte, Bool.false_eq_true, Bool.not_true, Bool.not_false]
      refine lc_fun (fun d => match d with | .int z => [.int (z * p)] | _ => []) (lt_line (by rw [natD_len]; omega)) (fun i d e => ?_) ?_
      · obtain ⟨z, rfl, hz⟩ := natD_get e
        refine ⟨_, rfl, by simp, fun acc J hJ => ?_⟩
        simp [vw_jk, at_0, at_1, at_2, at_3, at_4, ix_40, ix_41, ix_42, ix_43, boolsD_comp, intsD_comp, sh_int, sh_bool, sh_none, sh_str, ev_int, ev_bool, ev_str, ev_none, ev_ni, ev_in, uIfS, evT, ev, uRet, uRetO, uRetN, uDrop, uSet, uSetO, uMove, uFrz, uNext, uBreak, uCont, uApp, uIns, uPut, uPutA, uAug, uRaise, uVar, uC, uOp, uUn, uTru, uTst, uNot, uAnd, uOr, uAndV, uOrV, uNotV, uIf, uNil, uCons, argU, uTup, uLst, allD, onDs, onD, onT, onBool, oI, oIC, oAdd, oEq, oIsN, isN_none, isN_int, isN_bool, isN_str, isN_list, isN_tup, truD, oIx, uSl, uPart, uNoP, oSl, uCB, oLen, oList, oTuple, oInt, oAbs, oAll, oAny, oSum, onB, onI, uIs, uIs2, isT, uCall, uCallP, pick, vw, vw1, okU, okX, nolU, nol, nols, startU, kOf, kQ, kT, onL, uSeqI, uRng1, uRng2, rOk, uEnum, uRep, uTupRev, uYes, ugN, ugT2, wipeU, setU, uIfQ, uRetQ, uSetQ, uPutQ, ixC, uPar, uAsgT, uChain, uCall0, sizeLine_eq, oMax2, oSortI, oStrI, oIsB, szD, List.map_cons, List.map_nil, List.length_cons, List.length_nil, List.replicate, List.cons_append, List.nil_append, List.getElem?_cons_zero, List.getElem?_cons_succ, List.set_cons_zero, List.set_cons_succ, Option.map_some, Option.map_none, List.getD, Option.getD_some, if_true, true_and, and_true, Nat.reduceAdd, Nat.reduceSub, reduceIte, Bool.false_eq_true, Bool.not_true, Bool.not_false]
        exact ⟨mulR (by omega), hJ⟩
      · have e4 : ((natD (layIt p j (f, f)).2).flatMap fun d => match d with | .int z => [PyData.int (z * p)] | _ => []) = natD (layIt p (j + 1) (f, f)).2 := by
          show _ = natD ((layIt p j (f, f)).2.map (· * p))
          generalize (layIt p j (f, f)).2 = g
          induction g with
          | nil => rfl
          | cons a g ih => 
            show PyData.int (a * p) :: _ = PyData.int ((a * p : Nat) : Int) :: natD (g.map (· * p))
            rw [Int.natCast_mul, ← ih]
            rfl
        rw [e4]
        have e5 : natD (layIt p j (f, f)).1 ++ natD (layIt p (j + 1) (f, f)).2 = natD (layIt p (j + 1) (f, f)).1 := by
          rw [← natD_app]; rfl
        simp [vw_jk, at_0, at_1, at_2, at_3, at_4, ix_40, ix_41, ix_42, ix_43, boolsD_comp, intsD_comp, sh_int, sh_bool, sh_none, sh_str, ev_int, ev_bool, ev_str, ev_none, ev_ni, ev_in, uIfS, evT, ev, uRet, uRetO, uRetN, uDrop, uSet, uSetO, uMove, uFrz, uNext, uBreak, uCont, uApp, uIns, uPut, uPutA, uAug, uRaise, uVar, uC, uOp, uUn, uTru, uTst, uNot, uAnd, uOr, uAndV, uOrV, uNotV, uIf, uNil, uCons, argU, uTup, uLst, allD, onDs, onD, onT, onBool, oI, oIC, oAdd, oEq, oIsN, isN_none, isN_int, isN_bool, isN_str, isN_list, isN_tup, truD, oIx, uSl, uPart, uNoP, oSl, uCB, oLen, oList, oTuple, oInt, oAbs, oAll, oAny, oSum, onB, onI, uIs, uIs2, isT, uCall, uCallP, pick, vw, vw1, okU, okX, nolU, nol, nols, startU, kOf, kQ, kT, onL, uSeqI, uRng1, uRng2, rOk, uEnum, uRep, uTupRev, uYes, ugN, ugT2, wipeU, setU, uIfQ, uRetQ, uSetQ, uPutQ, ixC, uPar, uAsgT, uChain, uCall0, sizeLine_eq, oMax2, oSortI, oStrI, oIsB, szD, List.map_cons, List.map_nil, List.length_cons, List.length_nil, List.replicate, List.cons_append, List.nil_append, List.getElem?_cons_zero, List.getElem?_cons_succ, List.set_cons_zero, List.set_cons_succ, Option.map_some, Option.map_none, List.getD, Option.getD_some, if_true, true_and, and_true, Nat.reduceAdd, Nat.reduceSub, reduceIte, Bool.false_eq_true, Bool.not_true, Bool.not_false]
        rw [hN4]
        simp [vw_jk, at_0, at_1, at_2, at_3, at_4, ix_40, ix_41, ix_42, ix_43, boolsD_comp, intsD_comp, sh_int, sh_bool, sh_none, sh_str, ev_int, ev_bool, ev_str, ev_none, ev_ni, ev_in, uIfS, evT, ev, uRet, uRetO, uRetN, uDrop, uSet, uSetO, uMove, uFrz, uNext, uBreak, uCont, uApp, uIns, uPut, uPutA, uAug, uRaise, uVar, uC, uOp, uUn, uTru, uTst, uNot, uAnd, uOr, uAndV, uOrV, uNotV, uIf, uNil, uCons, argU, uTup, uLst, allD, onDs, onD, onT, onBool, oI, oIC, oAdd, oEq, oIsN, isN_none, isN_int, isN_bool, isN_str, isN_list, isN_tup, truD, oIx, uSl, uPart, uNoP, oSl, uCB, oLen, oList, oTuple, oInt, oAbs, oAll, oAny, oSum, onB, onI, uIs, uIs2, isT, uCall, uCallP, pick, vw, vw1, okU, okX, nolU, nol, nols, startU, kOf, kQ, kT, onL, uSeqI, uRng1, uRng2, rOk, uEnum, uRep, uTupRev, uYes, ugN, ugT2, wipeU, setU, uIfQ, uRetQ, uSetQ, uPutQ, ixC, uPar, uAsgT, uChain, uCall0, sizeLine_eq, oMax2, oSortI, oStrI, oIsB, szD, List.map_cons, List.map_nil, List.length_cons, List.length_nil, List.replicate, List.cons_append, List.nil_append, List.getElem?_cons_zero, List.getElem?_cons_succ, List.set_cons_zero, List.set_cons_succ, Option.map_some, Option.map_none, List.getD, Option.getD_some, if_true, true_and, and_true, Nat.reduceAdd, Nat.reduceSub, reduceIte, Bool.false_eq_true, Bool.not_true, Bool.not_false, e5, natD_len]
        exact ⟨by omega, hNX2 _ ⟨some _, o5, rfl⟩⟩
    · obtain ⟨o4, o5, rfl⟩ := hs
      refine hNX _ ⟨some (.int p), some (.int x), some (.list (natD (layIt p x (f, f)).2)), o4, o5, ?_⟩
      rw [e3, rngD_len, layIt_eq]
      rfl
  · obtain ⟨o1, o2, o3, o4, o5, rfl⟩ := hs
    show N2 _
    rw [hN2]
    simp [vw_jk, at_0, at_1, at_2, at_3, at_4, ix_40, ix_41, ix_42, ix_43, boolsD_comp, intsD_comp, sh_int, sh_bool, sh_none, sh_str, ev_int, ev_bool, ev_str, ev_none, ev_ni, ev_in, uIfS, evT, ev, uRet, uRetO, uRetN, uDrop, uSet, uSetO, uMove, uFrz, uNext, uBreak, uCont, uApp, uIns, uPut, uPutA, uAug, uRaise, uVar, uC, uOp, uUn, uTru, uTst, uNot, uAnd, uOr, uAndV, uOrV, uNotV, uIf, uNil, uCons, argU, uTup, uLst, allD, onDs, onD, onT, onBool, oI, oIC, oAdd, oEq, oIsN, isN_none, isN_int, isN_bool, isN_str, isN_list, isN_tup, truD, oIx, uSl, uPart, uNoP, oSl, uCB, oLen, oList, oTuple, oInt, oAbs, oAll, oAny, oSum, onB, onI, uIs, uIs2, isT, uCall, uCallP, pick, vw, vw1, okU, okX, nolU, nol, nols, startU, kOf, kQ, kT, onL, uSeqI, uRng1, uRng2, rOk, uEnum, uRep, uTupRev, uYes, ugN, ugT2, wipeU, setU, uIfQ, uRetQ, uSetQ, uPutQ, ixC, uPar, uAsgT, uChain, uCall0, sizeLine_eq, oMax2, oSortI, oStrI, oIsB, szD, List.map_cons, List.map_nil, List.length_cons, List.length_nil, List.replicate, List.cons_append, List.nil_append, List.getElem?_cons_zero, List.getElem?_cons_succ, List.set_cons_zero, List.set_cons_succ, Option.map_some, Option.map_none, List.getD, Option.getD_some, if_true, true_and, and_true, Nat.reduceAdd, Nat.reduceSub, reduceIte, Bool.false_eq_true, Bool.not_true, Bool.not_false, pairsD_len]
    refine ⟨(divsN n).map (fun n : Nat => (n : Int)), by rw [show divsF (facsN n) [1] = divsN n from rfl, natD_ints, intsD_map], fun ns' hp1 hp2 => ?_⟩
    obtain ⟨ms, rfl⟩ : ∃ ms : List Nat, ns' = ms.map (fun n : Nat => (n : Int)) := by
      refine ⟨ns'.map Int.toNat, ?_⟩
      rw [List.map_map]
      refine (List.map_id' ns').symm.trans (List.map_congr_left fun x hx => ?_)
      obtain ⟨y, _, rfl⟩ := List.mem_map.mp (hp1.subset hx)
      simp
    have hq : ms.Perm (divsN n) := by
      have := hp1.map Int.toNat
      rw [List.map_map, List.map_map] at this
      simpa [Function.comp_def] using this
    have hs2 : ms.Pairwise (· ≤ ·) := by
      rw [List.pairwise_map] at hp2
      exact hp2.imp fun h => by omega
    rw [← natD_ints, row_sorted h0 h1 hq hs2]
    exact hp
theorem sc_how_many_units : FnScope ["many", "units", "prime", "_"] ["many"] (defScope s_how_many_units) := ⟨rfl, rfl, rfl, by decide +kernel, rfl, by decide +kernel, by decide +kernel⟩
def fn_how_many_units : Fn := fun as P _ => ∃ n : Nat, as = [.d (.int n)] ∧ 0 < n ∧ n < 2 ^ 20 ∧ P (.d (.int (unitsN n : Nat)))
theorem has_how_many_units (T : Tk P K mg) {fd_factors_of : FuncData} (h_factors_of : Has P w K mg base 1 "factors_of" s_factors_of ["many"] fn_factors_of fd_factors_of) : ∃ fd, Has P w K mg base 2 "how_many_units" s_how_many_units ["many"] fn_how_many_units fd := by
  obtain ⟨fd, F⟩ := T.f_how_many_units
  have hb := F.binds (ps := ["many"]) fun _ _ _ _ _ _ us hl => match us, hl with | [_], _ => rfl
  refine ⟨fd, T.g_how_many_units, F.kp, F, hb, fnD F sc_how_many_units (by decide) fun cdv A outer s H E hr => ⟨_, _, (dss_cons (ds_set false 1 (dv 0) sc_how_many_units.nd)
    (dss_cons (ds_for poD rfl (di_seqk (KK := K) (de_own h_factors_of ⟨rfl, rfl, rfl, rfl, rfl⟩ (hr.mono (by decide)) rfl airD (da_cons (dv 0) da_nil))) (dg_tup2k (KK := K) 2 3 rfl sc_how_many_units.nd) (dss_one (ds_set false 1 (de_op do_mul (de_op do_fdiv (dv 1) (dv 2)) (de_op do_sub (dv 2) de_int)) sc_how_many_units.nd)))
    (dss_one (ds_ret false (dv 1))))), ?_⟩⟩
  rintro as Q PX hl ⟨n, rfl, h0, h1, hp⟩
  refine i_seq fun N hN => ?_
  simp [vw_jk, at_0, at_1, at_2, at_3, at_4, ix_40, ix_41, ix_42, ix_43, boolsD_comp, intsD_comp, sh_int, sh_bool, sh_none, sh_str, ev_int, ev_bool, ev_str, ev_none, ev_ni, ev_in, uIfS, evT, ev, uRet, uRetO, uRetN, uDrop, uSet, uSetO, uMove, uFrz, uNext, uBreak, uCont, uApp, uIns, uPut, uPutA, uAug, uRaise, uVar, uC, uOp, uUn, uTru, uTst, uNot, uAnd, uOr, uAndV, uOrV, uNotV, uIf, uNil, uCons, argU, uTup, uLst, allD, onDs, onD, onT, onBool, oI, oIC, oAdd, oEq, oIsN, isN_none, isN_int, isN_bool, isN_str, isN_list, isN_tup, truD, oIx, uSl, uPart, uNoP, oSl, uCB, oLen, oList, oTuple, oInt, oAbs, oAll, oAny, oSum, onB, onI, uIs, uIs2, isT, uCall, uCallP, pick, vw, vw1, okU, okX, nolU, nol, nols, startU, kOf, kQ, kT, onL, uSeqI, uRng1, uRng2, rOk, uEnum, uRep, uTupRev, uYes, ugN, ugT2, wipeU, setU, uIfQ, uRetQ, uSetQ, uPutQ, ixC, uPar, uAsgT, uChain, uCall0, sizeLine_eq, oMax2, oSortI, oStrI, oIsB, szD, List.map_cons, List.map_nil, List.length_cons, List.length_nil, List.replicate, List.cons_append, List.nil_append, List.getElem?_cons_zero, List.getElem?_cons_succ, List.set_cons_zero, List.set_cons_succ, Option.map_some, Option.map_none, List.getD, Option.getD_some, if_true, true_and, and_true, Nat.reduceAdd, Nat.reduceSub, reduceIte, Bool.false_eq_true, Bool.not_true, Bool.not_false]
  rw [hN]
  refine i_seq fun N2 hN2 => ?_
  refine i_for2 ?_
  simp [vw_jk, at_0, at_1, at_2, at_3, at_4, ix_40, ix_41, ix_42, ix_43, boolsD_comp, intsD_comp, sh_int, sh_bool, sh_none, sh_str, ev_int, ev_bool, ev_str, ev_none, ev_ni, ev_in, uIfS, evT, ev, uRet, uRetO, uRetN, uDrop, uSet, uSetO, uMove, uFrz, uNext, uBreak, uCont, uApp, uIns, uPut, uPutA, uAug, uRaise, uVar, uC, uOp, uUn, uTru, uTst, uNot, uAnd, uOr, uAndV, uOrV, uNotV, uIf, uNil, uCons, argU, uTup, uLst, allD, onDs, onD, onT, onBool, oI, oIC, oAdd, oEq, oIsN, isN_none, isN_int, isN_bool, isN_str, isN_list, isN_tup, truD, oIx, uSl, uPart, uNoP, oSl, uCB, oLen, oList, oTuple, oInt, oAbs, oAll, oAny, oSum, onB, onI, uIs, uIs2, isT, uCall, uCallP, pick, vw, vw1, okU, okX, nolU, nol, nols, startU, kOf, kQ, kT, onL, uSeqI, uRng1, uRng2, rOk, uEnum, uRep, uTupRev, uYes, ugN, ugT2, wipeU, setU, uIfQ, uRetQ, uSetQ, uPutQ, ixC, uPar, uAsgT, uChain, uCall0, sizeLine_eq, oMax2, oSortI, oStrI, oIsB, szD, List.map_cons, List.map_nil, List.length_cons, List.length_nil, List.replicate, List.cons_append, List.nil_append, List.getElem?_cons_zero, List.getElem?_cons_succ, List.set_cons_zero, List.set_cons_succ, Option.map_some, Option.map_none, List.getD, Option.getD_some, if_true, true_and, and_true, Nat.reduceAdd, Nat.reduceSub, reduceIte, Bool.false_eq_true, Bool.not_true, Bool.not_false]
  refine ⟨n, rfl, h0, h1, ?_⟩
  simp [vw_jk, at_0, at_1, at_2, at_3, at_4, ix_40, ix_41, ix_42, ix_43, boolsD_comp, intsD_comp, sh_int, sh_bool, sh_none, sh_str, ev_int, ev_bool, ev_str, ev_none, ev_ni, ev_in, uIfS, evT, ev, uRet, uRetO, uRetN, uDrop, uSet, uSetO, uMove, uFrz, uNext, uBreak, uCont, uApp, uIns, uPut, uPutA, uAug, uRaise, uVar, uC, uOp, uUn, uTru, uTst, uNot, uAnd, uOr, uAndV, uOrV, uNotV, uIf, uNil, uCons, argU, uTup, uLst, allD, onDs, onD, onT, onBool, oI, oIC, oAdd, oEq, oIsN, isN_none, isN_int, isN_bool, isN_str, isN_list, isN_tup, truD, oIx, uSl, uPart, uNoP, oSl, uCB, oLen, oList, oTuple, oInt, oAbs, oAll, oAny, oSum, onB, onI, uIs, uIs2, isT, uCall, uCallP, pick, vw, vw1, okU, okX, nolU, nol, nols, startU, kOf, kQ, kT, onL, uSeqI, uRng1, uRng2, rOk, uEnum, uRep, uTupRev, uYes, ugN, ugT2, wipeU, setU, uIfQ, uRetQ, uSetQ, uPutQ, ixC, uPar, uAsgT, uChain, uCall0, sizeLine_eq, oMax2, oSortI, oStrI, oIsB, szD, List.map_cons, List.map_nil, List.length_cons, List.length_nil, List.replicate, List.cons_append, List.nil_append, List.getElem?_cons_zero, List.getElem?_cons_succ, List.set_cons_zero, List.set_cons_succ, Option.map_some, Option.map_none, List.getD, Option.getD_some, if_true, true_and, and_true, Nat.reduceAdd, Nat.reduceSub, reduceIte, Bool.false_eq_true, Bool.not_true, Bool.not_false]
  have hF := (facsN_ok h0 h1).1
  have hge : ∀ x ∈ facsN n, 2 ≤ x.1 ∧ x.1 < 2 ^ 64 := fun x hx => IsF.mem (by rw [(facsN_ok h0 h1).2]; exact Nat.lt_of_lt_of_le h1 (by decide)) hF hx
  refine f_in (fun i s' => ∃ o o' : Option D, s' = [some (.d (.int n)), some (.d (.int (((facsN n).take i).foldl (fun u x => u / x.1 * (x.1 - 1)) n : Nat))), jk o, jk o']) ⟨none, none, rfl⟩ (fun i d s' e hi hs NX hNX => ?_) (fun s' hs => ?_)
  · obtain ⟨o, o', rfl⟩ := hs
    unfold pairsD at e
    rw [List.getElem?_map] at e
    obtain ⟨⟨p, x⟩, h2, rfl⟩ := Option.map_eq_some_iff.mp e
    obtain ⟨p2, p3⟩ := hge _ (List.mem_of_getElem? h2)
    simp [vw_jk, at_0, at_1, at_2, at_3, at_4, ix_40, ix_41, ix_42, ix_43, boolsD_comp, intsD_comp, sh_int, sh_bool, sh_none, sh_str, ev_int, ev_bool, ev_str, ev_none, ev_ni, ev_in, uIfS, evT, ev, uRet, uRetO, uRetN, uDrop, uSet, uSetO, uMove, uFrz, uNext, uBreak, uCont, uApp, uIns, uPut, uPutA, uAug, uRaise, uVar, uC, uOp, uUn, uTru, uTst, uNot, uAnd, uOr, uAndV, uOrV, uNotV, uIf, uNil, uCons, argU, uTup, uLst, allD, onDs, onD, onT, onBool, oI, oIC, oAdd, oEq, oIsN, isN_none, isN_int, isN_bool, isN_str, isN_list, isN_tup, truD, oIx, uSl, uPart, uNoP, oSl, uCB, oLen, oList, oTuple, oInt, oAbs, oAll, oAny, oSum, onB, onI, uIs, uIs2, isT, uCall, uCallP, pick, vw, vw1, okU, okX, nolU, nol, nols, startU, kOf, kQ, kT, onL, uSeqI, uRng1, uRng2, rOk, uEnum, uRep, uTupRev, uYes, ugN, ugT2, wipeU, setU, uIfQ, uRetQ, uSetQ, uPutQ, ixC, uPar, uAsgT, uChain, uCall0, sizeLine_eq, oMax2, oSortI, oStrI, oIsB, szD, List.map_cons, List.map_nil, List.length_cons, List.length_nil, List.replicate, List.cons_append, List.nil_append, List.getElem?_cons_zero, List.getElem?_cons_succ, List.set_cons_zero, List.set_cons_succ, Option.map_some, Option.map_none, List.getD, Option.getD_some, if_true, true_and, and_true, Nat.reduceAdd, Nat.reduceSub, reduceIte, Bool.false_eq_true, Bool.not_true, Bool.not_false, pairD]
    refine ⟨divS (by omega) (by omega), mulR (by omega), hNX _ ⟨some (.int p), some (.int x), ?_⟩⟩
    rw [List.take_succ, h2, List.foldl_append]
    have p1 : ((p - 1 : Nat) : Int) = (p : Int) - 1 := by have : 2 ≤ p := p2; omega
    simp [jk, p1]
  · obtain ⟨o, o', rfl⟩ := hs
    show N2 _
    rw [hN2]
    simp [vw_jk, at_0, at_1, at_2, at_3, at_4, ix_40, ix_41, ix_42, ix_43, boolsD_comp, intsD_comp, sh_int, sh_bool, sh_none, sh_str, ev_int, ev_bool, ev_str, ev_none, ev_ni, ev_in, uIfS, evT, ev, uRet, uRetO, uRetN, uDrop, uSet, uSetO, uMove, uFrz, uNext, uBreak, uCont, uApp, uIns, uPut, uPutA, uAug, uRaise, uVar, uC, uOp, uUn, uTru, uTst, uNot, uAnd, uOr, uAndV, uOrV, uNotV, uIf, uNil, uCons, argU, uTup, uLst, allD, onDs, onD, onT, onBool, oI, oIC, oAdd, oEq, oIsN, isN_none, isN_int, isN_bool, isN_str, isN_list, isN_tup, truD, oIx, uSl, uPart, uNoP, oSl, uCB, oLen, oList, oTuple, oInt, oAbs, oAll, oAny, oSum, onB, onI, uIs, uIs2, isT, uCall, uCallP, pick, vw, vw1, okU, okX, nolU, nol, nols, startU, kOf, kQ, kT, onL, uSeqI, uRng1, uRng2, rOk, uEnum, uRep, uTupRev, uYes, ugN, ugT2, wipeU, setU, uIfQ, uRetQ, uSetQ, uPutQ, ixC, uPar, uAsgT, uChain, uCall0, sizeLine_eq, oMax2, oSortI, oStrI, oIsB, szD, List.map_cons, List.map_nil, List.length_cons, List.length_nil, List.replicate, List.cons_append, List.nil_append, List.getElem?_cons_zero, List.getElem?_cons_succ, List.set_cons_zero, List.set_cons_succ, Option.map_some, Option.map_none, List.getD, Option.getD_some, if_true, true_and, and_true, Nat.reduceAdd, Nat.reduceSub, reduceIte, Bool.false_eq_true, Bool.not_true, Bool.not_false, pairsD_len]
    exact hp
theorem sc_exponent_in : FnScope ["many", "prime", "exponent"] ["many", "prime"] (defScope s_exponent_in) := ⟨rfl, rfl, rfl, by decide +kernel, rfl, by decide +kernel, by decide +kernel⟩
def priD : D → Bool
  | .int i => decide (2 ≤ i) && priB i.toNat
  | _ => false
/-- a bound for what is_prime is asked of -/
def smI (y : D) : Prop := ∀ i : Int, y = .int i → i ≤ 1000000
def fn_is_prime : Fn := fun as P _ => ∃ y : D, as = [.d y] ∧ smI y ∧ P (.d (.bool (priD y)))
def fn_exponent_in (K : Fr) : Fn := fun as P PX => ∃ (a : Nat) (y : D), as = [.d (.int a), .d y] ∧ 0 < a ∧ smI y ∧ (priD y = false → PX (refused K "prime")) ∧ (priD y = true → ∀ p c e : Nat, y = .int p → a = c * p ^ e → c % p ≠ 0 → P (.d (.int (e : Nat))))
theorem priD_int {y : D} (h : priD y = true) : ∃ p : Nat, y = .int p ∧ 2 ≤ p := by
  cases y <;> simp [priD] at h
  next i => exact ⟨i.toNat, by rw [Int.toNat_of_nonneg (by omega)], by omega⟩
theorem has_exponent_in (T : Tk P K mg) {fd_need : FuncData} (h_need : Has P w K mg base 3 "need" s_need ["good", "word"] (fn_need K) fd_need) {fd_is_prime : FuncData} (h_is_prime : Has P w K mg base 2 "is_prime" s_is_prime ["thing"] fn_is_prime fd_is_prime) : ∃ fd, Has P w K mg base 4 "exponent_in" s_exponent_in ["many", "prime"] (fn_exponent_in K) fd := by
  obtain ⟨fd, F⟩ := T.f_exponent_in
  have hb := F.binds (ps := ["many", "prime"]) fun _ _ _ _ _ _ us hl => match us, hl with | [_, _], _ => rfl
  refine ⟨fd, T.g_exponent_in, F.kp, F, hb, fnD F sc_exponent_in (by decide) fun cdv A outer s H E hr => ⟨_, _, (dss_cons (ds_expr false (de_own h_need ⟨rfl, rfl, rfl, rfl, rfl⟩ (hr.mono (by decide)) rfl airD (da_cons (de_own h_is_prime ⟨rfl, rfl, rfl, rfl, rfl⟩ (hr.mono (by decide)) rfl airD (da_cons (dv 1) da_nil)) (da_cons de_str da_nil))))
    (dss_cons (ds_set false 2 de_int sc_exponent_in.nd)
    (dss_cons (ds_while false poD (dt_cmp (do_eqk (KK := K) hr.units) (de_op do_mod (dv 0) (dv 1)) de_int) (dss_cons (ds_set false 0 (de_op do_fdiv (dv 0) (dv 1)) sc_exponent_in.nd)
    (dss_one (ds_set false 2 (de_op (do_addk (KK := K)) (dv 2) de_int) sc_exponent_in.nd))))
    (dss_one (ds_ret false (dv 2)))))), ?_⟩⟩
  rintro as Q PX hl ⟨a, y, rfl, a0, sy, h1, h2⟩
  refine i_seq fun N hN => ?_
  simp [vw_jk, at_0, at_1, at_2, at_3, at_4, ix_40, ix_41, ix_42, ix_43, boolsD_comp, intsD_comp, sh_int, sh_bool, sh_none, sh_str, ev_int, ev_bool, ev_str, ev_none, ev_ni, ev_in, uIfS, evT, ev, uRet, uRetO, uRetN, uDrop, uSet, uSetO, uMove, uFrz, uNext, uBreak, uCont, uApp, uIns, uPut, uPutA, uAug, uRaise, uVar, uC, uOp, uUn, uTru, uTst, uNot, uAnd, uOr, uAndV, uOrV, uNotV, uIf, uNil, uCons, argU, uTup, uLst, allD, onDs, onD, onT, onBool, oI, oIC, oAdd, oEq, oIsN, isN_none, isN_int, isN_bool, isN_str, isN_list, isN_tup, truD, oIx, uSl, uPart, uNoP, oSl, uCB, oLen, oList, oTuple, oInt, oAbs, oAll, oAny, oSum, onB, onI, uIs, uIs2, isT, uCall, uCallP, pick, vw, vw1, okU, okX, nolU, nol, nols, startU, kOf, kQ, kT, onL, uSeqI, uRng1, uRng2, rOk, uEnum, uRep, uTupRev, uYes, ugN, ugT2, wipeU, setU, uIfQ, uRetQ, uSetQ, uPutQ, ixC, uPar, uAsgT, uChain, uCall0, sizeLine_eq, oMax2, oSortI, oStrI, oIsB, szD, List.map_cons, List.map_nil, List.length_cons, List.length_nil, List.replicate, List.cons_append, List.nil_append, List.getElem?_cons_zero, List.getElem?_cons_succ, List.set_cons_zero, List.set_cons_succ, Option.map_some, Option.map_none, List.getD, Option.getD_some, if_true, true_and, and_true, Nat.reduceAdd, Nat.reduceSub, reduceIte, Bool.false_eq_true, Bool.not_true, Bool.not_false, need_iff]
  refine ⟨y, rfl, sy, ?_⟩
  simp [vw_jk, at_0, at_1, at_2, at_3, at_4, ix_40, ix_41, ix_42, ix_43, boolsD_comp, intsD_comp, sh_int, sh_bool, sh_none, sh_str, ev_int, ev_bool, ev_str, ev_none, ev_ni, ev_in, uIfS, evT, ev, uRet, uRetO, uRetN, uDrop, uSet, uSetO, uMove, uFrz, uNext, uBreak, uCont, uApp, uIns, uPut, uPutA, uAug, uRaise, uVar, uC, uOp, uUn, uTru, uTst, uNot, uAnd, uOr, uAndV, uOrV, uNotV, uIf, uNil, uCons, argU, uTup, uLst, allD, onDs, onD, onT, onBool, oI, oIC, oAdd, oEq, oIsN, isN_none, isN_int, isN_bool, isN_str, isN_list, isN_tup, truD, oIx, uSl, uPart, uNoP, oSl, uCB, oLen, oList, oTuple, oInt, oAbs, oAll, oAny, oSum, onB, onI, uIs, uIs2, isT, uCall, uCallP, pick, vw, vw1, okU, okX, nolU, nol, nols, startU, kOf, kQ, kT, onL, uSeqI, uRng1, uRng2, rOk, uEnum, uRep, uTupRev, uYes, ugN, ugT2, wipeU, setU, uIfQ, uRetQ, uSetQ, uPutQ, ixC, uPar, uAsgT, uChain, uCall0, sizeLine_eq, oMax2, oSortI, oStrI, oIsB, szD, List.map_cons, List.map_nil, List.length_cons, List.length_nil, List.replicate, List.cons_append, List.nil_append, List.getElem?_cons_zero, List.getElem?_cons_succ, List.set_cons_zero, List.set_cons_succ, Option.map_some, Option.map_none, List.getD, Option.getD_some, if_true, true_and, and_true, Nat.reduceAdd, Nat.reduceSub, reduceIte, Bool.false_eq_true, Bool.not_true, Bool.not_false, need_iff]
  refine ⟨fun e => ?_, h1⟩
  obtain ⟨p, rfl, p2⟩ := priD_int e
  have h3 := h2 e p
  have sp := sy p rfl
  rw [hN]
  refine i_seq fun N2 hN2 => ?_
  simp [vw_jk, at_0, at_1, at_2, at_3, at_4, ix_40, ix_41, ix_42, ix_43, boolsD_comp, intsD_comp, sh_int, sh_bool, sh_none, sh_str, ev_int, ev_bool, ev_str, ev_none, ev_ni, ev_in, uIfS, evT, ev, uRet, uRetO, uRetN, uDrop, uSet, uSetO, uMove, uFrz, uNext, uBreak, uCont, uApp, uIns, uPut, uPutA, uAug, uRaise, uVar, uC, uOp, uUn, uTru, uTst, uNot, uAnd, uOr, uAndV, uOrV, uNotV, uIf, uNil, uCons, argU, uTup, uLst, allD, onDs, onD, onT, onBool, oI, oIC, oAdd, oEq, oIsN, isN_none, isN_int, isN_bool, isN_str, isN_list, isN_tup, truD, oIx, uSl, uPart, uNoP, oSl, uCB, oLen, oList, oTuple, oInt, oAbs, oAll, oAny, oSum, onB, onI, uIs, uIs2, isT, uCall, uCallP, pick, vw, vw1, okU, okX, nolU, nol, nols, startU, kOf, kQ, kT, onL, uSeqI, uRng1, uRng2, rOk, uEnum, uRep, uTupRev, uYes, ugN, ugT2, wipeU, setU, uIfQ, uRetQ, uSetQ, uPutQ, ixC, uPar, uAsgT, uChain, uCall0, sizeLine_eq, oMax2, oSortI, oStrI, oIsB, szD, List.map_cons, List.map_nil, List.length_cons, List.length_nil, List.replicate, List.cons_append, List.nil_append, List.getElem?_cons_zero, List.getElem?_cons_succ, List.set_cons_zero, List.set_cons_succ, Option.map_some, Option.map_none, List.getD, Option.getD_some, if_true, true_and, and_true, Nat.reduceAdd, Nat.reduceSub, reduceIte, Bool.false_eq_true, Bool.not_true, Bool.not_false]
  rw [hN2]
  refine i_seq fun N3 hN3 => ?_
  refine i_while (fun m s' => ∃ (x e : Nat), m = x ∧ s' = [some (.d (.int x)), some (.d (.int p)), some (.d (.int e))] ∧ 0 < x ∧ a = x * p ^ e) a ⟨a, 0, rfl, rfl, a0, by simp⟩ ?_
  rintro m s' ⟨x, e', rfl, rfl, x0, hx⟩ NX hNX
  simp [vw_jk, at_0, at_1, at_2, at_3, at_4, ix_40, ix_41, ix_42, ix_43, boolsD_comp, intsD_comp, sh_int, sh_bool, sh_none, sh_str, ev_int, ev_bool, ev_str, ev_none, ev_ni, ev_in, uIfS, evT, ev, uRet, uRetO, uRetN, uDrop, uSet, uSetO, uMove, uFrz, uNext, uBreak, uCont, uApp, uIns, uPut, uPutA, uAug, uRaise, uVar, uC, uOp, uUn, uTru, uTst, uNot, uAnd, uOr, uAndV, uOrV, uNotV, uIf, uNil, uCons, argU, uTup, uLst, allD, onDs, onD, onT, onBool, oI, oIC, oAdd, oEq, oIsN, isN_none, isN_int, isN_bool, isN_str, isN_list, isN_tup, truD, oIx, uSl, uPart, uNoP, oSl, uCB, oLen, oList, oTuple, oInt, oAbs, oAll, oAny, oSum, onB, onI, uIs, uIs2, isT, uCall, uCallP, pick, vw, vw1, okU, okX, nolU, nol, nols, startU, kOf, kQ, kT, onL, uSeqI, uRng1, uRng2, rOk, uEnum, uRep, uTupRev, uYes, ugN, ugT2, wipeU, setU, uIfQ, uRetQ, uSetQ, uPutQ, ixC, uPar, uAsgT, uChain, uCall0, sizeLine_eq, oMax2, oSortI, oStrI, oIsB, szD, List.map_cons, List.map_nil, List.length_cons, List.length_nil, List.replicate, List.cons_append, List.nil_append, List.getElem?_cons_zero, List.getElem?_cons_succ, List.set_cons_zero, List.set_cons_succ, Option.map_some, Option.map_none, List.getD, Option.getD_some, if_true, true_and, and_true, Nat.reduceAdd, Nat.reduceSub, reduceIte, Bool.false_eq_true, Bool.not_true, Bool.not_false]
  refine ⟨by omega, ?_⟩
  have e2 : ((m : Int) % p = 0) ↔ m % p = 0 := by
    rw [← Int.natCast_emod]; omega
  simp only [e2]
  by_cases hc : m % p = 0
  · rw [if_pos hc]
    have hd2 : p * (m / p) = m := by have := Nat.div_add_mod m p; omega
    have hq0 : 0 < m / p := by
      rcases Nat.eq_zero_or_pos (m / p) with z | z
      · rw [z] at hd2; omega
      · exact z
    have hq1 := Nat.mul_le_mul_right (m / p) p2
    simp [uSeq, vw_jk, at_0, at_1, at_2, at_3, at_4, ix_40, ix_41, ix_42, ix_43, boolsD_comp, intsD_comp, sh_int, sh_bool, sh_none, sh_str, ev_int, ev_bool, ev_str, ev_none, ev_ni, ev_in, uIfS, evT, ev, uRet, uRetO, uRetN, uDrop, uSet, uSetO, uMove, uFrz, uNext, uBreak, uCont, uApp, uIns, uPut, uPutA, uAug, uRaise, uVar, uC, uOp, uUn, uTru, uTst, uNot, uAnd, uOr, uAndV, uOrV, uNotV, uIf, uNil, uCons, argU, uTup, uLst, allD, onDs, onD, onT, onBool, oI, oIC, oAdd, oEq, oIsN, isN_none, isN_int, isN_bool, isN_str, isN_list, isN_tup, truD, oIx, uSl, uPart, uNoP, oSl, uCB, oLen, oList, oTuple, oInt, oAbs, oAll, oAny, oSum, onB, onI, uIs, uIs2, isT, uCall, uCallP, pick, vw, vw1, okU, okX, nolU, nol, nols, startU, kOf, kQ, kT, onL, uSeqI, uRng1, uRng2, rOk, uEnum, uRep, uTupRev, uYes, ugN, ugT2, wipeU, setU, uIfQ, uRetQ, uSetQ, uPutQ, ixC, uPar, uAsgT, uChain, uCall0, sizeLine_eq, oMax2, oSortI, oStrI, oIsB, szD, List.map_cons, List.map_nil, List.length_cons, List.length_nil, List.replicate, List.cons_append, List.nil_append, List.getElem?_cons_zero, List.getElem?_cons_succ, List.set_cons_zero, List.set_cons_succ, Option.map_some, Option.map_none, List.getD, Option.getD_some, if_true, true_and, and_true, Nat.reduceAdd, Nat.reduceSub, reduceIte, Bool.false_eq_true, Bool.not_true, Bool.not_false]
    refine ⟨divS (by omega) (by omega), ?_⟩
    exact hNX (m / p) _ (by omega) ⟨m / p, e' + 1, rfl, by simp, hq0, by rw [Nat.pow_succ, Nat.mul_comm _ p, ← Nat.mul_assoc, Nat.mul_comm (m / p) p, hd2]; exact hx⟩
  · rw [if_neg hc]
    show N3 _
    rw [hN3]
    simp [vw_jk, at_0, at_1, at_2, at_3, at_4, ix_40, ix_41, ix_42, ix_43, boolsD_comp, intsD_comp, sh_int, sh_bool, sh_none, sh_str, ev_int, ev_bool, ev_str, ev_none, ev_ni, ev_in, uIfS, evT, ev, uRet, uRetO, uRetN, uDrop, uSet, uSetO, uMove, uFrz, uNext, uBreak, uCont, uApp, uIns, uPut, uPutA, uAug, uRaise, uVar, uC, uOp, uUn, uTru, uTst, uNot, uAnd, uOr, uAndV, uOrV, uNotV, uIf, uNil, uCons, argU, uTup, uLst, allD, onDs, onD, onT, onBool, oI, oIC, oAdd, oEq, oIsN, isN_none, isN_int, isN_bool, isN_str, isN_list, isN_tup, truD, oIx, uSl, uPart, uNoP, oSl, uCB, oLen, oList, oTuple, oInt, oAbs, oAll, oAny, oSum, onB, onI, uIs, uIs2, isT, uCall, uCallP, pick, vw, vw1, okU, okX, nolU, nol, nols, startU, kOf, kQ, kT, onL, uSeqI, uRng1, uRng2, rOk, uEnum, uRep, uTupRev, uYes, ugN, ugT2, wipeU, setU, uIfQ, uRetQ, uSetQ, uPutQ, ixC, uPar, uAsgT, uChain, uCall0, sizeLine_eq, oMax2, oSortI, oStrI, oIsB, szD, List.map_cons, List.map_nil, List.length_cons, List.length_nil, List.replicate, List.cons_append, List.nil_append, List.getElem?_cons_zero, List.getElem?_cons_succ, List.set_cons_zero, List.set_cons_succ, Option.map_some, Option.map_none, List.getD, Option.getD_some, if_true, true_and, and_true, Nat.reduceAdd, Nat.reduceSub, reduceIte, Bool.false_eq_true, Bool.not_true, Bool.not_false]
    exact h3 m e' rfl hx hc
theorem sc_is_prime : FnScope ["thing", "divisor"] ["thing"] (defScope s_is_prime) := ⟨rfl, rfl, rfl, by decide +kernel, rfl, by decide +kernel, by decide +kernel⟩
theorem tried_step {n d : Nat} (f : Nat) : triedB n (f + 1) d = if d * d ≤ n then (if n % d = 0 then false else triedB n f (d + 1)) else true := rfl
theorem tried_done {n f d : Nat} (h : n < d * d) : triedB n f d = true := by
  cases f with
  | zero => rfl
  | succ f => rw [tried_step, if_neg (by omega)]
theorem has_is_prime (T : Tk P K mg) {fd_is_integer : FuncData} (h_is_integer : Has P w K mg base 1 "is_integer" s_is_integer ["thing"] fn_is_integer fd_is_integer) : ∃ fd, Has P w K mg base 2 "is_prime" s_is_prime ["thing"] fn_is_prime fd := by
  obtain ⟨fd, F⟩ := T.f_is_prime
  have hb := F.binds (ps := ["thing"]) fun _ _ _ _ _ _ us hl => match us, hl with | [_], _ => rfl
  refine ⟨fd, T.g_is_prime, F.kp, F, hb, fnD F sc_is_prime (by decide) fun cdv A outer s H E hr => ⟨_, _, (dss_cons (ds_if false (DW.dt (dw_or (dt_not (dt_truk (KK := K) (de_own h_is_integer ⟨rfl, rfl, rfl, rfl, rfl⟩ (hr.mono (by decide)) rfl airD (da_cons (dv 0) da_nil)))) (dw_or1 (dt_cmp do_lt (dv 0) de_int)))) (dss_one (ds_ret false de_bl)) dss_nil)
    (dss_cons (ds_set false 1 de_int sc_is_prime.nd)
    (dss_cons (ds_while false poD (dt_cmp do_le (de_op do_mul (dv 1) (dv 1)) (dv 0)) (dss_cons (ds_if false (dt_cmp (do_eqk (KK := K) hr.units) (de_op do_mod (dv 0) (dv 1)) de_int) (dss_one (ds_ret false de_bl)) dss_nil)
    (dss_one (ds_set false 1 (de_op (do_addk (KK := K)) (dv 1) de_int) sc_is_prime.nd))))
    (dss_one (ds_ret false de_bl))))), ?_⟩⟩
  rintro as Q PX hl ⟨y, rfl, sy, hp⟩
  refine i_seq fun N hN => ?_
  by_cases hy : ∃ n : Nat, y = .int n ∧ 2 ≤ n
  · obtain ⟨n, rfl, n2⟩ := hy
    have sn := sy n rfl
    have n2' : ¬ (n : Int) < 2 := by omega
    have hv : priD (.int (n : Int)) = triedB n 1000 2 := by simp [priD, priB, n2, show (2 : Int) ≤ n by omega]
    rw [hv] at hp
    simp [vw_jk, at_0, at_1, at_2, at_3, at_4, ix_40, ix_41, ix_42, ix_43, boolsD_comp, intsD_comp, sh_int, sh_bool, sh_none, sh_str, ev_int, ev_bool, ev_str, ev_none, ev_ni, ev_in, uIfS, evT, ev, uRet, uRetO, uRetN, uDrop, uSet, uSetO, uMove, uFrz, uNext, uBreak, uCont, uApp, uIns, uPut, uPutA, uAug, uRaise, uVar, uC, uOp, uUn, uTru, uTst, uNot, uAnd, uOr, uAndV, uOrV, uNotV, uIf, uNil, uCons, argU, uTup, uLst, allD, onDs, onD, onT, onBool, oI, oIC, oAdd, oEq, oIsN, isN_none, isN_int, isN_bool, isN_str, isN_list, isN_tup, truD, oIx, uSl, uPart, uNoP, oSl, uCB, oLen, oList, oTuple, oInt, oAbs, oAll, oAny, oSum, onB, onI, uIs, uIs2, isT, uCall, uCallP, pick, vw, vw1, okU, okX, nolU, nol, nols, startU, kOf, kQ, kT, onL, uSeqI, uRng1, uRng2, rOk, uEnum, uRep, uTupRev, uYes, ugN, ugT2, wipeU, setU, uIfQ, uRetQ, uSetQ, uPutQ, ixC, uPar, uAsgT, uChain, uCall0, sizeLine_eq, oMax2, oSortI, oStrI, oIsB, szD, List.map_cons, List.map_nil, List.length_cons, List.length_nil, List.replicate, List.cons_append, List.nil_append, List.getElem?_cons_zero, List.getElem?_cons_succ, List.set_cons_zero, List.set_cons_succ, Option.map_some, Option.map_none, List.getD, Option.getD_some, if_true, true_and, and_true, Nat.reduceAdd, Nat.reduceSub, reduceIte, Bool.false_eq_true, Bool.not_true, Bool.not_false, int_iff, isI, n2']
    rw [hN]
    refine i_seq fun N2 hN2 => ?_
    simp [vw_jk, at_0, at_1, at_2, at_3, at_4, ix_40, ix_41, ix_42, ix_43, boolsD_comp, intsD_comp, sh_int, sh_bool, sh_none, sh_str, ev_int, ev_bool, ev_str, ev_none, ev_ni, ev_in, uIfS, evT, ev, uRet, uRetO, uRetN, uDrop, uSet, uSetO, uMove, uFrz, uNext, uBreak, uCont, uApp, uIns, uPut, uPutA, uAug, uRaise, uVar, uC, uOp, uUn, uTru, uTst, uNot, uAnd, uOr, uAndV, uOrV, uNotV, uIf, uNil, uCons, argU, uTup, uLst, allD, onDs, onD, onT, onBool, oI, oIC, oAdd, oEq, oIsN, isN_none, isN_int, isN_bool, isN_str, isN_list, isN_tup, truD, oIx, uSl, uPart, uNoP, oSl, uCB, oLen, oList, oTuple, oInt, oAbs, oAll, oAny, oSum, onB, onI, uIs, uIs2, isT, uCall, uCallP, pick, vw, vw1, okU, okX, nolU, nol, nols, startU, kOf, kQ, kT, onL, uSeqI, uRng1, uRng2, rOk, uEnum, uRep, uTupRev, uYes, ugN, ugT2, wipeU, setU, uIfQ, uRetQ, uSetQ, uPutQ, ixC, uPar, uAsgT, uChain, uCall0, sizeLine_eq, oMax2, oSortI, oStrI, oIsB, szD, List.map_cons, List.map_nil, List.length_cons, List.length_nil, List.replicate, List.cons_append, List.nil_append, List.getElem?_cons_zero, List.getElem?_cons_succ, List.set_cons_zero, List.set_cons_succ, Option.map_some, Option.map_none, List.getD, Option.getD_some, if_true, true_and, and_true, Nat.reduceAdd, Nat.reduceSub, reduceIte, Bool.false_eq_true, Bool.not_true, Bool.not_false]
    rw [hN2]
    refine i_seq fun N3 hN3 => ?_
    refine i_while (fun m s' => ∃ d : Nat, m + d = 1002 ∧ s' = [some (.d (.int n)), some (.d (.int d))] ∧ 2 ≤ d ∧ triedB n m d = triedB n 1000 2) 1000 ⟨2, rfl, rfl, by decide, rfl⟩ ?_
    rintro m s' ⟨d, hm, rfl, d2, hd⟩ NX hNX
    simp [vw_jk, at_0, at_1, at_2, at_3, at_4, ix_40, ix_41, ix_42, ix_43, boolsD_comp, intsD_comp, sh_int, sh_bool, sh_none, sh_str, ev_int, ev_bool, ev_str, ev_none, ev_ni, ev_in, uIfS, evT, ev, uRet, uRetO, uRetN, uDrop, uSet, uSetO, uMove, uFrz, uNext, uBreak, uCont, uApp, uIns, uPut, uPutA, uAug, uRaise, uVar, uC, uOp, uUn, uTru, uTst, uNot, uAnd, uOr, uAndV, uOrV, uNotV, uIf, uNil, uCons, argU, uTup, uLst, allD, onDs, onD, onT, onBool, oI, oIC, oAdd, oEq, oIsN, isN_none, isN_int, isN_bool, isN_str, isN_list, isN_tup, truD, oIx, uSl, uPart, uNoP, oSl, uCB, oLen, oList, oTuple, oInt, oAbs, oAll, oAny, oSum, onB, onI, uIs, uIs2, isT, uCall, uCallP, pick, vw, vw1, okU, okX, nolU, nol, nols, startU, kOf, kQ, kT, onL, uSeqI, uRng1, uRng2, rOk, uEnum, uRep, uTupRev, uYes, ugN, ugT2, wipeU, setU, uIfQ, uRetQ, uSetQ, uPutQ, ixC, uPar, uAsgT, uChain, uCall0, sizeLine_eq, oMax2, oSortI, oStrI, oIsB, szD, List.map_cons, List.map_nil, List.length_cons, List.length_nil, List.replicate, List.cons_append, List.nil_append, List.getElem?_cons_zero, List.getElem?_cons_succ, List.set_cons_zero, List.set_cons_succ, Option.map_some, Option.map_none, List.getD, Option.getD_some, if_true, true_and, and_true, Nat.reduceAdd, Nat.reduceSub, reduceIte, Bool.false_eq_true, Bool.not_true, Bool.not_false]
    refine ⟨mulR (by omega), ?_⟩
    have e1 : ((d : Int) * d ≤ n) ↔ d * d ≤ n := by
      rw [← Int.natCast_mul]; exact Int.ofNat_le
    simp only [e1]
    by_cases hdn : d * d ≤ n
    · rw [if_pos hdn]
      obtain ⟨m, rfl⟩ : ∃ m', m = m' + 1 := ⟨m - 1, by
        have : d ≤ 1001 := by
          rcases Nat.lt_or_ge 1001 d with z | z
          · have := Nat.mul_le_mul z z; omega
          · exact z
        omega⟩
      rw [tried_step, if_pos hdn] at hd
      refine i_seq fun N4 hN4 => ?_
      simp [vw_jk, at_0, at_1, at_2, at_3, at_4, ix_40, ix_41, ix_42, ix_43, boolsD_comp, intsD_comp, sh_int, sh_bool, sh_none, sh_str, ev_int, ev_bool, ev_str, ev_none, ev_ni, ev_in, uIfS, evT, ev, uRet, uRetO, uRetN, uDrop, uSet, uSetO, uMove, uFrz, uNext, uBreak, uCont, uApp, uIns, uPut, uPutA, uAug, uRaise, uVar, uC, uOp, uUn, uTru, uTst, uNot, uAnd, uOr, uAndV, uOrV, uNotV, uIf, uNil, uCons, argU, uTup, uLst, allD, onDs, onD, onT, onBool, oI, oIC, oAdd, oEq, oIsN, isN_none, isN_int, isN_bool, isN_str, isN_list, isN_tup, truD, oIx, uSl, uPart, uNoP, oSl, uCB, oLen, oList, oTuple, oInt, oAbs, oAll, oAny, oSum, onB, onI, uIs, uIs2, isT, uCall, uCallP, pick, vw, vw1, okU, okX, nolU, nol, nols, startU, kOf, kQ, kT, onL, uSeqI, uRng1, uRng2, rOk, uEnum, uRep, uTupRev, uYes, ugN, ugT2, wipeU, setU, uIfQ, uRetQ, uSetQ, uPutQ, ixC, uPar, uAsgT, uChain, uCall0, sizeLine_eq, oMax2, oSortI, oStrI, oIsB, szD, List.map_cons, List.map_nil, List.length_cons, List.length_nil, List.replicate, List.cons_append, List.nil_append, List.getElem?_cons_zero, List.getElem?_cons_succ, List.set_cons_zero, List.set_cons_succ, Option.map_some, Option.map_none, List.getD, Option.getD_some, if_true, true_and, and_true, Nat.reduceAdd, Nat.reduceSub, reduceIte, Bool.false_eq_true, Bool.not_true, Bool.not_false]
      refine ⟨by omega, ?_⟩
      have e2 : ((n : Int) % d = 0) ↔ n % d = 0 := by
        rw [← Int.natCast_emod]; omega
      simp only [e2]
      by_cases hc : n % d = 0
      · rw [if_pos hc] at hd ⊢
        rw [hd]; exact hp
      · rw [if_neg hc] at hd ⊢
        rw [hN4]
        simp [vw_jk, at_0, at_1, at_2, at_3, at_4, ix_40, ix_41, ix_42, ix_43, boolsD_comp, intsD_comp, sh_int, sh_bool, sh_none, sh_str, ev_int, ev_bool, ev_str, ev_none, ev_ni, ev_in, uIfS, evT, ev, uRet, uRetO, uRetN, uDrop, uSet, uSetO, uMove, uFrz, uNext, uBreak, uCont, uApp, uIns, uPut, uPutA, uAug, uRaise, uVar, uC, uOp, uUn, uTru, uTst, uNot, uAnd, uOr, uAndV, uOrV, uNotV, uIf, uNil, uCons, argU, uTup, uLst, allD, onDs, onD, onT, onBool, oI, oIC, oAdd, oEq, oIsN, isN_none, isN_int, isN_bool, isN_str, isN_list, isN_tup, truD, oIx, uSl, uPart, uNoP, oSl, uCB, oLen, oList, oTuple, oInt, oAbs, oAll, oAny, oSum, onB, onI, uIs, uIs2, isT, uCall, uCallP, pick, vw, vw1, okU, okX, nolU, nol, nols, startU, kOf, kQ, kT, onL, uSeqI, uRng1, uRng2, rOk, uEnum, uRep, uTupRev, uYes, ugN, ugT2, wipeU, setU, uIfQ, uRetQ, uSetQ, uPutQ, ixC, uPar, uAsgT, uChain, uCall0, sizeLine_eq, oMax2, oSortI, oStrI, oIsB, szD, List.map_cons, List.map_nil, List.length_cons, List.length_nil, List.replicate, List.cons_append, List.nil_append, List.getElem?_cons_zero, List.getElem?_cons_succ, List.set_cons_zero, List.set_cons_succ, Option.map_some, Option.map_none, List.getD, Option.getD_some, if_true, true_and, and_true, Nat.reduceAdd, Nat.reduceSub, reduceIte, Bool.false_eq_true, Bool.not_true, Bool.not_false]
        exact hNX m _ (by omega) ⟨d + 1, by omega, by simp, by omega, hd⟩
    · rw [if_neg hdn]
      rw [tried_done (by omega)] at hd
      show N3 _
      rw [hN3]
      simp [vw_jk, at_0, at_1, at_2, at_3, at_4, ix_40, ix_41, ix_42, ix_43, boolsD_comp, intsD_comp, sh_int, sh_bool, sh_none, sh_str, ev_int, ev_bool, ev_str, ev_none, ev_ni, ev_in, uIfS, evT, ev, uRet, uRetO, uRetN, uDrop, uSet, uSetO, uMove, uFrz, uNext, uBreak, uCont, uApp, uIns, uPut, uPutA, uAug, uRaise, uVar, uC, uOp, uUn, uTru, uTst, uNot, uAnd, uOr, uAndV, uOrV, uNotV, uIf, uNil, uCons, argU, uTup, uLst, allD, onDs, onD, onT, onBool, oI, oIC, oAdd, oEq, oIsN, isN_none, isN_int, isN_bool, isN_str, isN_list, isN_tup, truD, oIx, uSl, uPart, uNoP, oSl, uCB, oLen, oList, oTuple, oInt, oAbs, oAll, oAny, oSum, onB, onI, uIs, uIs2, isT, uCall, uCallP, pick, vw, vw1, okU, okX, nolU, nol, nols, startU, kOf, kQ, kT, onL, uSeqI, uRng1, uRng2, rOk, uEnum, uRep, uTupRev, uYes, ugN, ugT2, wipeU, setU, uIfQ, uRetQ, uSetQ, uPutQ, ixC, uPar, uAsgT, uChain, uCall0, sizeLine_eq, oMax2, oSortI, oStrI, oIsB, szD, List.map_cons, List.map_nil, List.length_cons, List.length_nil, List.replicate, List.cons_append, List.nil_append, List.getElem?_cons_zero, List.getElem?_cons_succ, List.set_cons_zero, List.set_cons_succ, Option.map_some, Option.map_none, List.getD, Option.getD_some, if_true, true_and, and_true, Nat.reduceAdd, Nat.reduceSub, reduceIte, Bool.false_eq_true, Bool.not_true, Bool.not_false]
      rw [hd]; exact hp
  · have hv : priD y = false := by
      cases h : priD y with
      | false => rfl
      | true => obtain ⟨p, h1, h2⟩ := priD_int h; exact absurd ⟨p, h1, h2⟩ hy
    rw [hv] at hp
    cases y with
    | int i =>
      have : i < 2 := by
        by_cases z : i < 2
        · exact z
        · exact absurd ⟨i.toNat, by rw [Int.toNat_of_nonneg (by omega)], by omega⟩ hy
      simp [vw_jk, at_0, at_1, at_2, at_3, at_4, ix_40, ix_41, ix_42, ix_43, boolsD_comp, intsD_comp, sh_int, sh_bool, sh_none, sh_str, ev_int, ev_bool, ev_str, ev_none, ev_ni, ev_in, uIfS, evT, ev, uRet, uRetO, uRetN, uDrop, uSet, uSetO, uMove, uFrz, uNext, uBreak, uCont, uApp, uIns, uPut, uPutA, uAug, uRaise, uVar, uC, uOp, uUn, uTru, uTst, uNot, uAnd, uOr, uAndV, uOrV, uNotV, uIf, uNil, uCons, argU, uTup, uLst, allD, onDs, onD, onT, onBool, oI, oIC, oAdd, oEq, oIsN, isN_none, isN_int, isN_bool, isN_str, isN_list, isN_tup, truD, oIx, uSl, uPart, uNoP, oSl, uCB, oLen, oList, oTuple, oInt, oAbs, oAll, oAny, oSum, onB, onI, uIs, uIs2, isT, uCall, uCallP, pick, vw, vw1, okU, okX, nolU, nol, nols, startU, kOf, kQ, kT, onL, uSeqI, uRng1, uRng2, rOk, uEnum, uRep, uTupRev, uYes, ugN, ugT2, wipeU, setU, uIfQ, uRetQ, uSetQ, uPutQ, ixC, uPar, uAsgT, uChain, uCall0, sizeLine_eq, oMax2, oSortI, oStrI, oIsB, szD, List.map_cons, List.map_nil, List.length_cons, List.length_nil, List.replicate, List.cons_append, List.nil_append, List.getElem?_cons_zero, List.getElem?_cons_succ, List.set_cons_zero, List.set_cons_succ, Option.map_some, Option.map_none, List.getD, Option.getD_some, if_true, true_and, and_true, Nat.reduceAdd, Nat.reduceSub, reduceIte, Bool.false_eq_true, Bool.not_true, Bool.not_false, int_iff, isI, this]
      exact hp
    | _ =>
      simp [vw_jk, at_0, at_1, at_2, at_3, at_4, ix_40, ix_41, ix_42, ix_43, boolsD_comp, intsD_comp, sh_int, sh_bool, sh_none, sh_str, ev_int, ev_bool, ev_str, ev_none, ev_ni, ev_in, uIfS, evT, ev, uRet, uRetO, uRetN, uDrop, uSet, uSetO, uMove, uFrz, uNext, uBreak, uCont, uApp, uIns, uPut, uPutA, uAug, uRaise, uVar, uC, uOp, uUn, uTru, uTst, uNot, uAnd, uOr, uAndV, uOrV, uNotV, uIf, uNil, uCons, argU, uTup, uLst, allD, onDs, onD, onT, onBool, oI, oIC, oAdd, oEq, oIsN, isN_none, isN_int, isN_bool, isN_str, isN_list, isN_tup, truD, oIx, uSl, uPart, uNoP, oSl, uCB, oLen, oList, oTuple, oInt, oAbs, oAll, oAny, oSum, onB, onI, uIs, uIs2, isT, uCall, uCallP, pick, vw, vw1, okU, okX, nolU, nol, nols, startU, kOf, kQ, kT, onL, uSeqI, uRng1, uRng2, rOk, uEnum, uRep, uTupRev, uYes, ugN, ugT2, wipeU, setU, uIfQ, uRetQ, uSetQ, uPutQ, ixC, uPar, uAsgT, uChain, uCall0, sizeLine_eq, oMax2, oSortI, oStrI, oIsB, szD, List.map_cons, List.map_nil, List.length_cons, List.length_nil, List.replicate, List.cons_append, List.nil_append, List.getElem?_cons_zero, List.getElem?_cons_succ, List.set_cons_zero, List.set_cons_succ, Option.map_some, Option.map_none, List.getD, Option.getD_some, if_true, true_and, and_true, Nat.reduceAdd, Nat.reduceSub, reduceIte, Bool.false_eq_true, Bool.not_true, Bool.not_false, int_iff, isI]
      exact hp
theorem sc__law_draw : FnScope ["_law_src", "_law_width", "_law_got", "_law_cell"] ["_law_src", "_law_width"] (defScope s__law_draw) := ⟨rfl, rfl, rfl, by decide +kernel, rfl, by decide +kernel, by decide +kernel⟩
def fn__law_draw : Fn := fun as P PX => ∃ m : Int, as = [.hold HVk, .d (.int m)] ∧ 0 < m ∧ m.natAbs.log2 < 9000 ∧ ∀ r : Int, 0 ≤ r → r < m → P (.d (.int r))
theorem tk {m : Int} {P : U → Prop} {PX : Ex → Prop} (hm : 0 < m) (h2 : m.natAbs.log2 < 9000) (h : ∀ r : Int, 0 ≤ r → r < m → P (.d (.int r))) : fn__law_draw [.hold HVk, .d (.int m)] P PX := ⟨m, rfl, hm, h2, h⟩
theorem tkN {i : Int} (m : Nat) (hi : i = (m : Int)) (h0 : 0 < m) (h1 : m < 2 ^ 400) {P : U → Prop} {PX : Ex → Prop} (h : ∀ r : Nat, r < m → P (.d (.int r))) : fn__law_draw [.hold HVk, .d (.int i)] P PX := by
  subst hi
  refine tk (by omega) (lgS (by rw [Int.natAbs_natCast]; exact h1)) fun r r0 r1 => ?_
  have := h r.toNat (by omega)
  rw [Int.toNat_of_nonneg r0] at this
  exact this
theorem mulC {a b : Nat} (h1 : a < 2 ^ 400) (h2 : b < 2 ^ 400) : CMulA (a : Int) (b : Int) := mulW (by rw [Int.natAbs_natCast]; exact h1) (by rw [Int.natAbs_natCast]; exact h2)
theorem divC {a : Int} {b : Nat} (h0 : 0 < b) (h2 : b < 2 ^ 400) : CDivW a (b : Int) := divW (by omega) (by rw [Int.natAbs_natCast]; exact h2)
theorem has__law_draw (T : Tk P K mg) : ∃ fd, Has P w K mg base 1 "_law_draw" s__law_draw ["_law_src", "_law_width"] fn__law_draw fd := by
  obtain ⟨fd, F⟩ := T.f__law_draw
  have hb := F.binds (ps := ["_law_src", "_law_width"]) fun _ _ _ _ _ _ us hl => match us, hl with | [_, _], _ => rfl
  refine ⟨fd, T.g__law_draw, F.kp, F, hb, fnH F sc__law_draw (by decide) fun cdv A outer s H E hr => ⟨_, _, (dqs_cons (dq_if (W := WD E) (dt_cmp do_gt (de_ixk (KK := K) (dv 0) de_int) de_int) (dqs_cons (dq_set (W := WD E) 2 (de_op do_mod (de_callTy dc_int (by rfl) T.n_int bt_int (da_cons (de_ixk (KK := K) (dv 0) de_int) da_nil)) (dv 1)) sc__law_draw.nd)
    (dqs_cons (dq_put (W := WD E) de_int (de_op do_fdiv (de_ixk (KK := K) (dv 0) de_int) (dv 1)))
    (dqs_one (dq_ret (W := WD E) (dv 2))))) dqs_nil)
    (dqs_cons (dq_set (W := WD E) 3 de_int sc__law_draw.nd)
    (dqs_cons (dq_if (W := WD E) (dt_cmp do_lt (de_ixk (KK := K) (dv 0) de_int) (de_callB (dc_lenk (KK := K)) (by rfl) T.n_len bt_len (da_cons (de_ixk (KK := K) (dv 0) de_int) da_nil))) (dqs_cons (dq_set (W := WD E) 3 (de_ixk (KK := K) (de_ixk (KK := K) (dv 0) de_int) (de_ixk (KK := K) (dv 0) de_int)) sc__law_draw.nd)
    (dqs_one (dq_put (W := WD E) de_int (de_op (do_addk (KK := K)) (de_ixk (KK := K) (dv 0) de_int) de_int)))) dqs_nil)
    (dqs_cons (dq_if (W := WD E) (dt_cmp do_ge (dv 3) (de_op do_pow de_int de_int)) (dqs_cons (dq_put (W := WD E) de_int (de_op do_fdiv (dv 3) (dv 1)))
    (dqs_one (dq_ret (W := WD E) (de_op do_mod (de_callTy dc_int (by rfl) T.n_int bt_int (da_cons (dv 3) da_nil)) (dv 1))))) dqs_nil)
    (dqs_cons (dq_put (W := WD E) de_int (de_op do_mod (de_callTy dc_int (by rfl) T.n_int bt_int (da_cons (de_op (do_addk (KK := K)) (de_op (do_addk (KK := K)) (de_op do_mul (de_ixk (KK := K) (dv 0) de_int) de_int) (de_op do_mul (dv 3) de_int)) de_int) da_nil)) de_int))
    (dqs_one (dq_ret (W := WD E) (de_op do_mod (de_op do_mod (de_callTy dc_int (by rfl) T.n_int bt_int (da_cons (de_op (do_addk (KK := K)) (de_op do_fdiv (de_op do_mul (de_ixk (KK := K) (dv 0) de_int) (de_ixk (KK := K) (dv 0) de_int)) de_int) (de_op do_fdiv (de_ixk (KK := K) (dv 0) de_int) de_int)) da_nil)) de_int) (dv 1))))))))), ?_⟩⟩
  rintro as Q PX hl ⟨m, rfl, hm, hm2, hp⟩
  refine ⟨HVk, [.int m], rfl, by simp [atm], ?_⟩
  rintro l ⟨i, w, s, c, rfl, i0, w0, s0⟩
  have hdiv : CDivW w m := ⟨hm, hm2⟩
  refine i_seq fun N hN => ?_
  simp [uSeq, vw_jk, at_0, at_1, at_2, at_3, at_4, ix_40, ix_41, ix_42, ix_43, boolsD_comp, intsD_comp, sh_int, sh_bool, sh_none, sh_str, ev_int, ev_bool, ev_str, ev_none, ev_ni, ev_in, uIfS, evT, ev, uRet, uRetO, uRetN, uDrop, uSet, uSetO, uMove, uFrz, uNext, uBreak, uCont, uApp, uIns, uPut, uPutA, uAug, uRaise, uVar, uC, uOp, uUn, uTru, uTst, uNot, uAnd, uOr, uAndV, uOrV, uNotV, uIf, uNil, uCons, argU, uTup, uLst, allD, onDs, onD, onT, onBool, oI, oIC, oAdd, oEq, oIsN, isN_none, isN_int, isN_bool, isN_str, isN_list, isN_tup, truD, oIx, uSl, uPart, uNoP, oSl, uCB, oLen, oList, oTuple, oInt, oAbs, oAll, oAny, oSum, onB, onI, uIs, uIs2, isT, uCall, uCallP, pick, vw, vw1, okU, okX, nolU, nol, nols, startU, kOf, kQ, kT, onL, uSeqI, uRng1, uRng2, rOk, uEnum, uRep, uTupRev, uYes, ugN, ugT2, wipeU, setU, uIfQ, uRetQ, uSetQ, uPutQ, ixC, uPar, uAsgT, uChain, uCall0, sizeLine_eq, oMax2, oSortI, oStrI, oIsB, szD, List.map_cons, List.map_nil, List.length_cons, List.length_nil, List.replicate, List.cons_append, List.nil_append, List.getElem?_cons_zero, List.getElem?_cons_succ, List.set_cons_zero, List.set_cons_succ, Option.map_some, Option.map_none, List.getD, Option.getD_some, if_true, true_and, and_true, Nat.reduceAdd, Nat.reduceSub, reduceIte, Bool.false_eq_true, Bool.not_true, Bool.not_false]
  by_cases hw : 0 < w
  · simp [uSeq, vw_jk, at_0, at_1, at_2, at_3, at_4, ix_40, ix_41, ix_42, ix_43, boolsD_comp, intsD_comp, sh_int, sh_bool, sh_none, sh_str, ev_int, ev_bool, ev_str, ev_none, ev_ni, ev_in, uIfS, evT, ev, uRet, uRetO, uRetN, uDrop, uSet, uSetO, uMove, uFrz, uNext, uBreak, uCont, uApp, uIns, uPut, uPutA, uAug, uRaise, uVar, uC, uOp, uUn, uTru, uTst, uNot, uAnd, uOr, uAndV, uOrV, uNotV, uIf, uNil, uCons, argU, uTup, uLst, allD, onDs, onD, onT, onBool, oI, oIC, oAdd, oEq, oIsN, isN_none, isN_int, isN_bool, isN_str, isN_list, isN_tup, truD, oIx, uSl, uPart, uNoP, oSl, uCB, oLen, oList, oTuple, oInt, oAbs, oAll, oAny, oSum, onB, onI, uIs, uIs2, isT, uCall, uCallP, pick, vw, vw1, okU, okX, nolU, nol, nols, startU, kOf, kQ, kT, onL, uSeqI, uRng1, uRng2, rOk, uEnum, uRep, uTupRev, uYes, ugN, ugT2, wipeU, setU, uIfQ, uRetQ, uSetQ, uPutQ, ixC, uPar, uAsgT, uChain, uCall0, sizeLine_eq, oMax2, oSortI, oStrI, oIsB, szD, List.map_cons, List.map_nil, List.length_cons, List.length_nil, List.replicate, List.cons_append, List.nil_append, List.getElem?_cons_zero, List.getElem?_cons_succ, List.set_cons_zero, List.set_cons_succ, Option.map_some, Option.map_none, List.getD, Option.getD_some, if_true, true_and, and_true, Nat.reduceAdd, Nat.reduceSub, reduceIte, Bool.false_eq_true, Bool.not_true, Bool.not_false, hw]
    refine ⟨hm, hdiv, ⟨_, rfl, i, w / m, s, c, rfl, i0, Int.ediv_nonneg w0 (by omega), s0⟩, hp _ (Int.emod_nonneg _ (by omega)) (Int.emod_lt_of_pos _ hm)⟩
  · simp [uSeq, vw_jk, at_0, at_1, at_2, at_3, at_4, ix_40, ix_41, ix_42, ix_43, boolsD_comp, intsD_comp, sh_int, sh_bool, sh_none, sh_str, ev_int, ev_bool, ev_str, ev_none, ev_ni, ev_in, uIfS, evT, ev, uRet, uRetO, uRetN, uDrop, uSet, uSetO, uMove, uFrz, uNext, uBreak, uCont, uApp, uIns, uPut, uPutA, uAug, uRaise, uVar, uC, uOp, uUn, uTru, uTst, uNot, uAnd, uOr, uAndV, uOrV, uNotV, uIf, uNil, uCons, argU, uTup, uLst, allD, onDs, onD, onT, onBool, oI, oIC, oAdd, oEq, oIsN, isN_none, isN_int, isN_bool, isN_str, isN_list, isN_tup, truD, oIx, uSl, uPart, uNoP, oSl, uCB, oLen, oList, oTuple, oInt, oAbs, oAll, oAny, oSum, onB, onI, uIs, uIs2, isT, uCall, uCallP, pick, vw, vw1, okU, okX, nolU, nol, nols, startU, kOf, kQ, kT, onL, uSeqI, uRng1, uRng2, rOk, uEnum, uRep, uTupRev, uYes, ugN, ugT2, wipeU, setU, uIfQ, uRetQ, uSetQ, uPutQ, ixC, uPar, uAsgT, uChain, uCall0, sizeLine_eq, oMax2, oSortI, oStrI, oIsB, szD, List.map_cons, List.map_nil, List.length_cons, List.length_nil, List.replicate, List.cons_append, List.nil_append, List.getElem?_cons_zero, List.getElem?_cons_succ, List.set_cons_zero, List.set_cons_succ, Option.map_some, Option.map_none, List.getD, Option.getD_some, if_true, true_and, and_true, Nat.reduceAdd, Nat.reduceSub, reduceIte, Bool.false_eq_true, Bool.not_true, Bool.not_false, hw]
    rw [hN]
    refine i_seq fun N2 hN2 => ?_
    simp [uSeq, vw_jk, at_0, at_1, at_2, at_3, at_4, ix_40, ix_41, ix_42, ix_43, boolsD_comp, intsD_comp, sh_int, sh_bool, sh_none, sh_str, ev_int, ev_bool, ev_str, ev_none, ev_ni, ev_in, uIfS, evT, ev, uRet, uRetO, uRetN, uDrop, uSet, uSetO, uMove, uFrz, uNext, uBreak, uCont, uApp, uIns, uPut, uPutA, uAug, uRaise, uVar, uC, uOp, uUn, uTru, uTst, uNot, uAnd, uOr, uAndV, uOrV, uNotV, uIf, uNil, uCons, argU, uTup, uLst, allD, onDs, onD, onT, onBool, oI, oIC, oAdd, oEq, oIsN, isN_none, isN_int, isN_bool, isN_str, isN_list, isN_tup, truD, oIx, uSl, uPart, uNoP, oSl, uCB, oLen, oList, oTuple, oInt, oAbs, oAll, oAny, oSum, onB, onI, uIs, uIs2, isT, uCall, uCallP, pick, vw, vw1, okU, okX, nolU, nol, nols, startU, kOf, kQ, kT, onL, uSeqI, uRng1, uRng2, rOk, uEnum, uRep, uTupRev, uYes, ugN, ugT2, wipeU, setU, uIfQ, uRetQ, uSetQ, uPutQ, ixC, uPar, uAsgT, uChain, uCall0, sizeLine_eq, oMax2, oSortI, oStrI, oIsB, szD, List.map_cons, List.map_nil, List.length_cons, List.length_nil, List.replicate, List.cons_append, List.nil_append, List.getElem?_cons_zero, List.getElem?_cons_succ, List.set_cons_zero, List.set_cons_succ, Option.map_some, Option.map_none, List.getD, Option.getD_some, if_true, true_and, and_true, Nat.reduceAdd, Nat.reduceSub, reduceIte, Bool.false_eq_true, Bool.not_true, Bool.not_false]
    rw [hN2]
    refine i_cut (fun s' => ∃ (i w s x : Int) (c : List Int), s' = [some (.d (.list [.int i, .int w, .int s, .list (c.map .int)])), some (.d (.int m)), none, some (.d (.int x))] ∧ 0 ≤ i ∧ 0 ≤ w ∧ 0 ≤ s) ?_ ?_
    · rintro s' ⟨i, w, s, x, c, rfl, i0, w0, s0⟩
      refine i_seq fun N3 hN3 => ?_
      simp [uSeq, vw_jk, at_0, at_1, at_2, at_3, at_4, ix_40, ix_41, ix_42, ix_43, boolsD_comp, intsD_comp, sh_int, sh_bool, sh_none, sh_str, ev_int, ev_bool, ev_str, ev_none, ev_ni, ev_in, uIfS, evT, ev, uRet, uRetO, uRetN, uDrop, uSet, uSetO, uMove, uFrz, uNext, uBreak, uCont, uApp, uIns, uPut, uPutA, uAug, uRaise, uVar, uC, uOp, uUn, uTru, uTst, uNot, uAnd, uOr, uAndV, uOrV, uNotV, uIf, uNil, uCons, argU, uTup, uLst, allD, onDs, onD, onT, onBool, oI, oIC, oAdd, oEq, oIsN, isN_none, isN_int, isN_bool, isN_str, isN_list, isN_tup, truD, oIx, uSl, uPart, uNoP, oSl, uCB, oLen, oList, oTuple, oInt, oAbs, oAll, oAny, oSum, onB, onI, uIs, uIs2, isT, uCall, uCallP, pick, vw, vw1, okU, okX, nolU, nol, nols, startU, kOf, kQ, kT, onL, uSeqI, uRng1, uRng2, rOk, uEnum, uRep, uTupRev, uYes, ugN, ugT2, wipeU, setU, uIfQ, uRetQ, uSetQ, uPutQ, ixC, uPar, uAsgT, uChain, uCall0, sizeLine_eq, oMax2, oSortI, oStrI, oIsB, szD, List.map_cons, List.map_nil, List.length_cons, List.length_nil, List.replicate, List.cons_append, List.nil_append, List.getElem?_cons_zero, List.getElem?_cons_succ, List.set_cons_zero, List.set_cons_succ, Option.map_some, Option.map_none, List.getD, Option.getD_some, if_true, true_and, and_true, Nat.reduceAdd, Nat.reduceSub, reduceIte, Bool.false_eq_true, Bool.not_true, Bool.not_false]
      refine ⟨powS (by decide) (by decide) (by decide), ?_⟩
      split
      · next hx =>
        have hdiv : CDivW x m := ⟨hm, hm2⟩
        exact ⟨hdiv, hm, ⟨_, rfl, i, x / m, s, c, rfl, i0, Int.ediv_nonneg (by omega) (by omega), s0⟩, hp _ (Int.emod_nonneg _ (by omega)) (Int.emod_lt_of_pos _ hm)⟩
      · rw [hN3]
        refine i_seq fun N4 hN4 => ?_
        simp [uSeq, vw_jk, at_0, at_1, at_2, at_3, at_4, ix_40, ix_41, ix_42, ix_43, boolsD_comp, intsD_comp, sh_int, sh_bool, sh_none, sh_str, ev_int, ev_bool, ev_str, ev_none, ev_ni, ev_in, uIfS, evT, ev, uRet, uRetO, uRetN, uDrop, uSet, uSetO, uMove, uFrz, uNext, uBreak, uCont, uApp, uIns, uPut, uPutA, uAug, uRaise, uVar, uC, uOp, uUn, uTru, uTst, uNot, uAnd, uOr, uAndV, uOrV, uNotV, uIf, uNil, uCons, argU, uTup, uLst, allD, onDs, onD, onT, onBool, oI, oIC, oAdd, oEq, oIsN, isN_none, isN_int, isN_bool, isN_str, isN_list, isN_tup, truD, oIx, uSl, uPart, uNoP, oSl, uCB, oLen, oList, oTuple, oInt, oAbs, oAll, oAny, oSum, onB, onI, uIs, uIs2, isT, uCall, uCallP, pick, vw, vw1, okU, okX, nolU, nol, nols, startU, kOf, kQ, kT, onL, uSeqI, uRng1, uRng2, rOk, uEnum, uRep, uTupRev, uYes, ugN, ugT2, wipeU, setU, uIfQ, uRetQ, uSetQ, uPutQ, ixC, uPar, uAsgT, uChain, uCall0, sizeLine_eq, oMax2, oSortI, oStrI, oIsB, szD, List.map_cons, List.map_nil, List.length_cons, List.length_nil, List.replicate, List.cons_append, List.nil_append, List.getElem?_cons_zero, List.getElem?_cons_succ, List.set_cons_zero, List.set_cons_succ, Option.map_some, Option.map_none, List.getD, Option.getD_some, if_true, true_and, and_true, Nat.reduceAdd, Nat.reduceSub, reduceIte, Bool.false_eq_true, Bool.not_true, Bool.not_false]
        refine ⟨mulR (by decide), mulR (by decide), ?_⟩
        rw [hN4]
        simp [uSeq, vw_jk, at_0, at_1, at_2, at_3, at_4, ix_40, ix_41, ix_42, ix_43, boolsD_comp, intsD_comp, sh_int, sh_bool, sh_none, sh_str, ev_int, ev_bool, ev_str, ev_none, ev_ni, ev_in, uIfS, evT, ev, uRet, uRetO, uRetN, uDrop, uSet, uSetO, uMove, uFrz, uNext, uBreak, uCont, uApp, uIns, uPut, uPutA, uAug, uRaise, uVar, uC, uOp, uUn, uTru, uTst, uNot, uAnd, uOr, uAndV, uOrV, uNotV, uIf, uNil, uCons, argU, uTup, uLst, allD, onDs, onD, onT, onBool, oI, oIC, oAdd, oEq, oIsN, isN_none, isN_int, isN_bool, isN_str, isN_list, isN_tup, truD, oIx, uSl, uPart, uNoP, oSl, uCB, oLen, oList, oTuple, oInt, oAbs, oAll, oAny, oSum, onB, onI, uIs, uIs2, isT, uCall, uCallP, pick, vw, vw1, okU, okX, nolU, nol, nols, startU, kOf, kQ, kT, onL, uSeqI, uRng1, uRng2, rOk, uEnum, uRep, uTupRev, uYes, ugN, ugT2, wipeU, setU, uIfQ, uRetQ, uSetQ, uPutQ, ixC, uPar, uAsgT, uChain, uCall0, sizeLine_eq, oMax2, oSortI, oStrI, oIsB, szD, List.map_cons, List.map_nil, List.length_cons, List.length_nil, List.replicate, List.cons_append, List.nil_append, List.getElem?_cons_zero, List.getElem?_cons_succ, List.set_cons_zero, List.set_cons_succ, Option.map_some, Option.map_none, List.getD, Option.getD_some, if_true, true_and, and_true, Nat.reduceAdd, Nat.reduceSub, reduceIte, Bool.false_eq_true, Bool.not_true, Bool.not_false]
        generalize hq : (s * 69621 + x * 104729 + 29) % 2147483587 = q
        have q0 : 0 ≤ q := by rw [← hq]; exact Int.emod_nonneg _ (by decide)
        have q1 : q < 2147483587 := by rw [← hq]; exact Int.emod_lt_of_pos _ (by decide)
        exact ⟨mulR (by omega), divS (by decide) (by decide), divS (by decide) (by decide), hm, ⟨_, rfl, i, w, q, c, rfl, i0, w0, q0⟩, hp _ (Int.emod_nonneg _ (by omega)) (Int.emod_lt_of_pos _ hm)⟩
    · intro N3 hN3
      simp [uSeq, vw_jk, at_0, at_1, at_2, at_3, at_4, ix_40, ix_41, ix_42, ix_43, boolsD_comp, intsD_comp, sh_int, sh_bool, sh_none, sh_str, ev_int, ev_bool, ev_str, ev_none, ev_ni, ev_in, uIfS, evT, ev, uRet, uRetO, uRetN, uDrop, uSet, uSetO, uMove, uFrz, uNext, uBreak, uCont, uApp, uIns, uPut, uPutA, uAug, uRaise, uVar, uC, uOp, uUn, uTru, uTst, uNot, uAnd, uOr, uAndV, uOrV, uNotV, uIf, uNil, uCons, argU, uTup, uLst, allD, onDs, onD, onT, onBool, oI, oIC, oAdd, oEq, oIsN, isN_none, isN_int, isN_bool, isN_str, isN_list, isN_tup, truD, oIx, uSl, uPart, uNoP, oSl, uCB, oLen, oList, oTuple, oInt, oAbs, oAll, oAny, oSum, onB, onI, uIs, uIs2, isT, uCall, uCallP, pick, vw, vw1, okU, okX, nolU, nol, nols, startU, kOf, kQ, kT, onL, uSeqI, uRng1, uRng2, rOk, uEnum, uRep, uTupRev, uYes, ugN, ugT2, wipeU, setU, uIfQ, uRetQ, uSetQ, uPutQ, ixC, uPar, uAsgT, uChain, uCall0, sizeLine_eq, oMax2, oSortI, oStrI, oIsB, szD, List.map_cons, List.map_nil, List.length_cons, List.length_nil, List.replicate, List.cons_append, List.nil_append, List.getElem?_cons_zero, List.getElem?_cons_succ, List.set_cons_zero, List.set_cons_succ, Option.map_some, Option.map_none, List.getD, Option.getD_some, if_true, true_and, and_true, Nat.reduceAdd, Nat.reduceSub, reduceIte, Bool.false_eq_true, Bool.not_true, Bool.not_false]
      by_cases hi : i < c.length
      · obtain ⟨x, h1, h2⟩ := at_nn (l := c.map PyData.int) i0 (by simpa using hi)
        rw [List.getElem?_map] at h2
        obtain ⟨z, h3, rfl⟩ := Option.map_eq_some_iff.mp h2
        simp [uSeq, vw_jk, at_0, at_1, at_2, at_3, at_4, ix_40, ix_41, ix_42, ix_43, boolsD_comp, intsD_comp, sh_int, sh_bool, sh_none, sh_str, ev_int, ev_bool, ev_str, ev_none, ev_ni, ev_in, uIfS, evT, ev, uRet, uRetO, uRetN, uDrop, uSet, uSetO, uMove, uFrz, uNext, uBreak, uCont, uApp, uIns, uPut, uPutA, uAug, uRaise, uVar, uC, uOp, uUn, uTru, uTst, uNot, uAnd, uOr, uAndV, uOrV, uNotV, uIf, uNil, uCons, argU, uTup, uLst, allD, onDs, onD, onT, onBool, oI, oIC, oAdd, oEq, oIsN, isN_none, isN_int, isN_bool, isN_str, isN_list, isN_tup, truD, oIx, uSl, uPart, uNoP, oSl, uCB, oLen, oList, oTuple, oInt, oAbs, oAll, oAny, oSum, onB, onI, uIs, uIs2, isT, uCall, uCallP, pick, vw, vw1, okU, okX, nolU, nol, nols, startU, kOf, kQ, kT, onL, uSeqI, uRng1, uRng2, rOk, uEnum, uRep, uTupRev, uYes, ugN, ugT2, wipeU, setU, uIfQ, uRetQ, uSetQ, uPutQ, ixC, uPar, uAsgT, uChain, uCall0, sizeLine_eq, oMax2, oSortI, oStrI, oIsB, szD, List.map_cons, List.map_nil, List.length_cons, List.length_nil, List.replicate, List.cons_append, List.nil_append, List.getElem?_cons_zero, List.getElem?_cons_succ, List.set_cons_zero, List.set_cons_succ, Option.map_some, Option.map_none, List.getD, Option.getD_some, if_true, true_and, and_true, Nat.reduceAdd, Nat.reduceSub, reduceIte, Bool.false_eq_true, Bool.not_true, Bool.not_false, hi, h1]
        exact hN3 _ ⟨_, w, s, z, c, rfl, by omega, w0, s0⟩
      · simp [uSeq, vw_jk, at_0, at_1, at_2, at_3, at_4, ix_40, ix_41, ix_42, ix_43, boolsD_comp, intsD_comp, sh_int, sh_bool, sh_none, sh_str, ev_int, ev_bool, ev_str, ev_none, ev_ni, ev_in, uIfS, evT, ev, uRet, uRetO, uRetN, uDrop, uSet, uSetO, uMove, uFrz, uNext, uBreak, uCont, uApp, uIns, uPut, uPutA, uAug, uRaise, uVar, uC, uOp, uUn, uTru, uTst, uNot, uAnd, uOr, uAndV, uOrV, uNotV, uIf, uNil, uCons, argU, uTup, uLst, allD, onDs, onD, onT, onBool, oI, oIC, oAdd, oEq, oIsN, isN_none, isN_int, isN_bool, isN_str, isN_list, isN_tup, truD, oIx, uSl, uPart, uNoP, oSl, uCB, oLen, oList, oTuple, oInt, oAbs, oAll, oAny, oSum, onB, onI, uIs, uIs2, isT, uCall, uCallP, pick, vw, vw1, okU, okX, nolU, nol, nols, startU, kOf, kQ, kT, onL, uSeqI, uRng1, uRng2, rOk, uEnum, uRep, uTupRev, uYes, ugN, ugT2, wipeU, setU, uIfQ, uRetQ, uSetQ, uPutQ, ixC, uPar, uAsgT, uChain, uCall0, sizeLine_eq, oMax2, oSortI, oStrI, oIsB, szD, List.map_cons, List.map_nil, List.length_cons, List.length_nil, List.replicate, List.cons_append, List.nil_append, List.getElem?_cons_zero, List.getElem?_cons_succ, List.set_cons_zero, List.set_cons_succ, Option.map_some, Option.map_none, List.getD, Option.getD_some, if_true, true_and, and_true, Nat.reduceAdd, Nat.reduceSub, reduceIte, Bool.false_eq_true, Bool.not_true, Bool.not_false, hi]
        exact hN3 _ ⟨i, w, s, 0, c, rfl, i0, w0, s0⟩
theorem sc__law_great : FnScope ["_law_src", "_law_figures", "_law_got", "_law_k"] ["_law_src", "_law_figures"] (defScope s__law_great) := ⟨rfl, rfl, rfl, by decide +kernel, rfl, by decide +kernel, by decide +kernel⟩
def fn__law_great : Fn := fun as P PX => ∃ f : Nat, as = [.hold HVk, .d (.int f)] ∧ f ≤ 100 ∧ ∀ r : Nat, r < 100000 ^ (f / 5) → P (.d (.int r))
theorem gt {i : Int} (f : Nat) (hi : i = (f : Int)) {P : U → Prop} {PX : Ex → Prop} (h : f ≤ 100) (hp : ∀ r : Nat, r < 100000 ^ (f / 5) → P (.d (.int r))) : fn__law_great [.hold HVk, .d (.int i)] P PX := by
  subst hi; exact ⟨f, rfl, h, hp⟩
theorem has__law_great (T : Tk P K mg) {fd__law_draw : FuncData} (h__law_draw : Has P w K mg base 1 "_law_draw" s__law_draw ["_law_src", "_law_width"] fn__law_draw fd__law_draw) : ∃ fd, Has P w K mg base 2 "_law_great" s__law_great ["_law_src", "_law_figures"] fn__law_great fd := by
  obtain ⟨fd, F⟩ := T.f__law_great
  have hb := F.binds (ps := ["_law_src", "_law_figures"]) fun _ _ _ _ _ _ us hl => match us, hl with | [_, _], _ => rfl
  refine ⟨fd, T.g__law_great, F.kp, F, hb, fnD F sc__law_great (by decide) fun cdv A outer s H E hr => ⟨_, _, (dss_cons (ds_set false 2 de_int sc__law_great.nd)
    (dss_cons (ds_for poD rfl (di_rng1 (de_op do_fdiv (dv 1) de_int) rfl T.n_range) (dg_name 3 sc__law_great.nd) (dss_one (ds_set false 2 (de_op (do_addk (KK := K)) (de_op do_mul (dv 2) de_int) (de_own h__law_draw ⟨rfl, rfl, rfl, rfl, rfl⟩ (hr.mono (by decide)) rfl airD (da_cons (dv 0) (da_cons de_int da_nil)))) sc__law_great.nd)))
    (dss_one (ds_ret false (dv 2))))), ?_⟩⟩
  rintro as Q PX hl ⟨f, rfl, hf, hp⟩
  refine i_seq fun N hN => ?_
  simp [vw_jk, at_0, at_1, at_2, at_3, at_4, ix_40, ix_41, ix_42, ix_43, boolsD_comp, intsD_comp, sh_int, sh_bool, sh_none, sh_str, ev_int, ev_bool, ev_str, ev_none, ev_ni, ev_in, uIfS, evT, ev, uRet, uRetO, uRetN, uDrop, uSet, uSetO, uMove, uFrz, uNext, uBreak, uCont, uApp, uIns, uPut, uPutA, uAug, uRaise, uVar, uC, uOp, uUn, uTru, uTst, uNot, uAnd, uOr, uAndV, uOrV, uNotV, uIf, uNil, uCons, argU, uTup, uLst, allD, onDs, onD, onT, onBool, oI, oIC, oAdd, oEq, oIsN, isN_none, isN_int, isN_bool, isN_str, isN_list, isN_tup, truD, oIx, uSl, uPart, uNoP, oSl, uCB, oLen, oList, oTuple, oInt, oAbs, oAll, oAny, oSum, onB, onI, uIs, uIs2, isT, uCall, uCallP, pick, vw, vw1, okU, okX, nolU, nol, nols, startU, kOf, kQ, kT, onL, uSeqI, uRng1, uRng2, rOk, uEnum, uRep, uTupRev, uYes, ugN, ugT2, wipeU, setU, uIfQ, uRetQ, uSetQ, uPutQ, ixC, uPar, uAsgT, uChain, uCall0, sizeLine_eq, oMax2, oSortI, oStrI, oIsB, szD, List.map_cons, List.map_nil, List.length_cons, List.length_nil, List.replicate, List.cons_append, List.nil_append, List.getElem?_cons_zero, List.getElem?_cons_succ, List.set_cons_zero, List.set_cons_succ, Option.map_some, Option.map_none, List.getD, Option.getD_some, if_true, true_and, and_true, Nat.reduceAdd, Nat.reduceSub, reduceIte, Bool.false_eq_true, Bool.not_true, Bool.not_false]
  rw [hN]
  refine i_seq fun N2 hN2 => ?_
  refine i_for2 ?_
  simp [vw_jk, at_0, at_1, at_2, at_3, at_4, ix_40, ix_41, ix_42, ix_43, boolsD_comp, intsD_comp, sh_int, sh_bool, sh_none, sh_str, ev_int, ev_bool, ev_str, ev_none, ev_ni, ev_in, uIfS, evT, ev, uRet, uRetO, uRetN, uDrop, uSet, uSetO, uMove, uFrz, uNext, uBreak, uCont, uApp, uIns, uPut, uPutA, uAug, uRaise, uVar, uC, uOp, uUn, uTru, uTst, uNot, uAnd, uOr, uAndV, uOrV, uNotV, uIf, uNil, uCons, argU, uTup, uLst, allD, onDs, onD, onT, onBool, oI, oIC, oAdd, oEq, oIsN, isN_none, isN_int, isN_bool, isN_str, isN_list, isN_tup, truD, oIx, uSl, uPart, uNoP, oSl, uCB, oLen, oList, oTuple, oInt, oAbs, oAll, oAny, oSum, onB, onI, uIs, uIs2, isT, uCall, uCallP, pick, vw, vw1, okU, okX, nolU, nol, nols, startU, kOf, kQ, kT, onL, uSeqI, uRng1, uRng2, rOk, uEnum, uRep, uTupRev, uYes, ugN, ugT2, wipeU, setU, uIfQ, uRetQ, uSetQ, uPutQ, ixC, uPar, uAsgT, uChain, uCall0, sizeLine_eq, oMax2, oSortI, oStrI, oIsB, szD, List.map_cons, List.map_nil, List.length_cons, List.length_nil, List.replicate, List.cons_append, List.nil_append, List.getElem?_cons_zero, List.getElem?_cons_succ, List.set_cons_zero, List.set_cons_succ, Option.map_some, Option.map_none, List.getD, Option.getD_some, if_true, true_and, and_true, Nat.reduceAdd, Nat.reduceSub, reduceIte, Bool.false_eq_true, Bool.not_true, Bool.not_false]
  refine ⟨divS (by decide) (by decide), ⟨by omega, by omega⟩, ?_⟩
  refine f_in (fun i s' => ∃ (r : Nat) (o : Option D), s' = [some (.hold HVk), some (.d (.int f)), some (.d (.int r)), jk o] ∧ r < 100000 ^ i) ⟨0, none, rfl, by decide⟩ (fun i d s' e hi hs NX hNX => ?_) (fun s' hs => ?_)
  · obtain ⟨r, o, rfl, hr⟩ := hs
    simp [vw_jk, at_0, at_1, at_2, at_3, at_4, ix_40, ix_41, ix_42, ix_43, boolsD_comp, intsD_comp, sh_int, sh_bool, sh_none, sh_str, ev_int, ev_bool, ev_str, ev_none, ev_ni, ev_in, uIfS, evT, ev, uRet, uRetO, uRetN, uDrop, uSet, uSetO, uMove, uFrz, uNext, uBreak, uCont, uApp, uIns, uPut, uPutA, uAug, uRaise, uVar, uC, uOp, uUn, uTru, uTst, uNot, uAnd, uOr, uAndV, uOrV, uNotV, uIf, uNil, uCons, argU, uTup, uLst, allD, onDs, onD, onT, onBool, oI, oIC, oAdd, oEq, oIsN, isN_none, isN_int, isN_bool, isN_str, isN_list, isN_tup, truD, oIx, uSl, uPart, uNoP, oSl, uCB, oLen, oList, oTuple, oInt, oAbs, oAll, oAny, oSum, onB, onI, uIs, uIs2, isT, uCall, uCallP, pick, vw, vw1, okU, okX, nolU, nol, nols, startU, kOf, kQ, kT, onL, uSeqI, uRng1, uRng2, rOk, uEnum, uRep, uTupRev, uYes, ugN, ugT2, wipeU, setU, uIfQ, uRetQ, uSetQ, uPutQ, ixC, uPar, uAsgT, uChain, uCall0, sizeLine_eq, oMax2, oSortI, oStrI, oIsB, szD, List.map_cons, List.map_nil, List.length_cons, List.length_nil, List.replicate, List.cons_append, List.nil_append, List.getElem?_cons_zero, List.getElem?_cons_succ, List.set_cons_zero, List.set_cons_succ, Option.map_some, Option.map_none, List.getD, Option.getD_some, if_true, true_and, and_true, Nat.reduceAdd, Nat.reduceSub, reduceIte, Bool.false_eq_true, Bool.not_true, Bool.not_false]
    refine ⟨mulR (by decide), tk (by decide) (by decide) fun q q0 q1 => ?_⟩
    simp [vw_jk, at_0, at_1, at_2, at_3, at_4, ix_40, ix_41, ix_42, ix_43, boolsD_comp, intsD_comp, sh_int, sh_bool, sh_none, sh_str, ev_int, ev_bool, ev_str, ev_none, ev_ni, ev_in, uIfS, evT, ev, uRet, uRetO, uRetN, uDrop, uSet, uSetO, uMove, uFrz, uNext, uBreak, uCont, uApp, uIns, uPut, uPutA, uAug, uRaise, uVar, uC, uOp, uUn, uTru, uTst, uNot, uAnd, uOr, uAndV, uOrV, uNotV, uIf, uNil, uCons, argU, uTup, uLst, allD, onDs, onD, onT, onBool, oI, oIC, oAdd, oEq, oIsN, isN_none, isN_int, isN_bool, isN_str, isN_list, isN_tup, truD, oIx, uSl, uPart, uNoP, oSl, uCB, oLen, oList, oTuple, oInt, oAbs, oAll, oAny, oSum, onB, onI, uIs, uIs2, isT, uCall, uCallP, pick, vw, vw1, okU, okX, nolU, nol, nols, startU, kOf, kQ, kT, onL, uSeqI, uRng1, uRng2, rOk, uEnum, uRep, uTupRev, uYes, ugN, ugT2, wipeU, setU, uIfQ, uRetQ, uSetQ, uPutQ, ixC, uPar, uAsgT, uChain, uCall0, sizeLine_eq, oMax2, oSortI, oStrI, oIsB, szD, List.map_cons, List.map_nil, List.length_cons, List.length_nil, List.replicate, List.cons_append, List.nil_append, List.getElem?_cons_zero, List.getElem?_cons_succ, List.set_cons_zero, List.set_cons_succ, Option.map_some, Option.map_none, List.getD, Option.getD_some, if_true, true_and, and_true, Nat.reduceAdd, Nat.reduceSub, reduceIte, Bool.false_eq_true, Bool.not_true, Bool.not_false]
    have e2 : (r : Int) * 100000 + q = ((r * 100000 + q.toNat : Nat) : Int) := by omega
    rw [e2]
    exact hNX _ ⟨_, some _, rfl, by rw [Nat.pow_succ]; omega⟩
  · obtain ⟨r, o, rfl, hr⟩ := hs
    show N2 _
    rw [hN2]
    simp [vw_jk, at_0, at_1, at_2, at_3, at_4, ix_40, ix_41, ix_42, ix_43, boolsD_comp, intsD_comp, sh_int, sh_bool, sh_none, sh_str, ev_int, ev_bool, ev_str, ev_none, ev_ni, ev_in, uIfS, evT, ev, uRet, uRetO, uRetN, uDrop, uSet, uSetO, uMove, uFrz, uNext, uBreak, uCont, uApp, uIns, uPut, uPutA, uAug, uRaise, uVar, uC, uOp, uUn, uTru, uTst, uNot, uAnd, uOr, uAndV, uOrV, uNotV, uIf, uNil, uCons, argU, uTup, uLst, allD, onDs, onD, onT, onBool, oI, oIC, oAdd, oEq, oIsN, isN_none, isN_int, isN_bool, isN_str, isN_list, isN_tup, truD, oIx, uSl, uPart, uNoP, oSl, uCB, oLen, oList, oTuple, oInt, oAbs, oAll, oAny, oSum, onB, onI, uIs, uIs2, isT, uCall, uCallP, pick, vw, vw1, okU, okX, nolU, nol, nols, startU, kOf, kQ, kT, onL, uSeqI, uRng1, uRng2, rOk, uEnum, uRep, uTupRev, uYes, ugN, ugT2, wipeU, setU, uIfQ, uRetQ, uSetQ, uPutQ, ixC, uPar, uAsgT, uChain, uCall0, sizeLine_eq, oMax2, oSortI, oStrI, oIsB, szD, List.map_cons, List.map_nil, List.length_cons, List.length_nil, List.replicate, List.cons_append, List.nil_append, List.getElem?_cons_zero, List.getElem?_cons_succ, List.set_cons_zero, List.set_cons_succ, Option.map_some, Option.map_none, List.getD, Option.getD_some, if_true, true_and, and_true, Nat.reduceAdd, Nat.reduceSub, reduceIte, Bool.false_eq_true, Bool.not_true, Bool.not_false]
    refine hp r ?_
    rw [rngD_len] at hr
    rw [show f / 5 = ((f : Int) / 5).toNat by omega]; exact hr
theorem sc__law_whole : FnScope ["_law_odd_here"] ["_law_odd_here"] (defScope s__law_whole) := ⟨rfl, rfl, rfl, by decide +kernel, rfl, by decide +kernel, by decide +kernel⟩
def fn__law_whole : Fn := fun as P _ => ∃ x, as = [.d x] ∧ P (.d (.bool (isI x)))
theorem whole_iff {x : D} {P : U → Prop} {PX : Ex → Prop} : fn__law_whole [.d x] P PX ↔ P (.d (.bool (isI x))) := by
  constructor
  · rintro ⟨x', e, h⟩
    cases e; exact h
  · intro h; exact ⟨x, rfl, h⟩
theorem has__law_whole (T : Tk P K mg) : ∃ fd, Has P w K mg base 1 "_law_whole" s__law_whole ["_law_odd_here"] fn__law_whole fd := by
  obtain ⟨fd, F⟩ := T.f__law_whole
  have hb := F.binds (ps := ["_law_odd_here"]) fun _ _ _ _ _ _ us hl => match us, hl with | [_], _ => rfl
  refine ⟨fd, T.g__law_whole, F.kp, F, hb, fnD F sc__law_whole (by decide) fun cdv A outer s H E hr => ⟨_, _, (dss_one (ds_ret false (de_andk (KK := K) (de_isk (KK := K) .int (dv 0) rfl T.n_isinstance bt_isi rfl T.n_int bt_int) (de_one (de_notk (KK := K) (de_isk (KK := K) .bool (dv 0) rfl T.n_isinstance bt_isi rfl T.n_bool bt_bool)))))), ?_⟩⟩
  rintro as Q PX hl ⟨x, rfl, h⟩
  cases x <;> simp [vw_jk, at_0, at_1, at_2, at_3, at_4, ix_40, ix_41, ix_42, ix_43, boolsD_comp, intsD_comp, sh_int, sh_bool, sh_none, sh_str, ev_int, ev_bool, ev_str, ev_none, ev_ni, ev_in, uIfS, evT, ev, uRet, uRetO, uRetN, uDrop, uSet, uSetO, uMove, uFrz, uNext, uBreak, uCont, uApp, uIns, uPut, uPutA, uAug, uRaise, uVar, uC, uOp, uUn, uTru, uTst, uNot, uAnd, uOr, uAndV, uOrV, uNotV, uIf, uNil, uCons, argU, uTup, uLst, allD, onDs, onD, onT, onBool, oI, oIC, oAdd, oEq, oIsN, isN_none, isN_int, isN_bool, isN_str, isN_list, isN_tup, truD, oIx, uSl, uPart, uNoP, oSl, uCB, oLen, oList, oTuple, oInt, oAbs, oAll, oAny, oSum, onB, onI, uIs, uIs2, isT, uCall, uCallP, pick, vw, vw1, okU, okX, nolU, nol, nols, startU, kOf, kQ, kT, onL, uSeqI, uRng1, uRng2, rOk, uEnum, uRep, uTupRev, uYes, ugN, ugT2, wipeU, setU, uIfQ, uRetQ, uSetQ, uPutQ, ixC, uPar, uAsgT, uChain, uCall0, sizeLine_eq, oMax2, oSortI, oStrI, oIsB, szD, List.map_cons, List.map_nil, List.length_cons, List.length_nil, List.replicate, List.cons_append, List.nil_append, List.getElem?_cons_zero, List.getElem?_cons_succ, List.set_cons_zero, List.set_cons_succ, Option.map_some, Option.map_none, List.getD, Option.getD_some, if_true, true_and, and_true, Nat.reduceAdd, Nat.reduceSub, reduceIte, Bool.false_eq_true, Bool.not_true, Bool.not_false] <;> exact h
theorem hasW__law_whole (T : Tk P K mg) : ∃ fd, HasW P w K mg base 1 "_law_whole" s__law_whole ["_law_odd_here"] fn__law_whole fd := by
  obtain ⟨fd, F⟩ := T.f__law_whole
  have hb := F.binds (ps := ["_law_odd_here"]) fun _ _ _ _ _ _ us hl => match us, hl with | [_], _ => rfl
  refine ⟨fd, T.g__law_whole, F.kp, F, hb, fnDW F sc__law_whole (by decide) (fun cdv A outer s H E pn hr => ⟨_, _, (dss_one (ds_ret false (de_andk (KK := K) (de_isk (KK := K) .int (dv 0) rfl T.n_isinstance bt_isi rfl T.n_int bt_int) (de_one (de_notk (KK := K) (de_isk (KK := K) .bool (dv 0) rfl T.n_isinstance bt_isi rfl T.n_bool bt_bool)))))), ?_⟩) (fun _ _ _ h => h)⟩
  rintro as Q PX hl ⟨x, rfl, h⟩
  cases x <;> simp [vw_jk, at_0, at_1, at_2, at_3, at_4, ix_40, ix_41, ix_42, ix_43, boolsD_comp, intsD_comp, sh_int, sh_bool, sh_none, sh_str, ev_int, ev_bool, ev_str, ev_none, ev_ni, ev_in, uIfS, evT, ev, uRet, uRetO, uRetN, uDrop, uSet, uSetO, uMove, uFrz, uNext, uBreak, uCont, uApp, uIns, uPut, uPutA, uAug, uRaise, uVar, uC, uOp, uUn, uTru, uTst, uNot, uAnd, uOr, uAndV, uOrV, uNotV, uIf, uNil, uCons, argU, uTup, uLst, allD, onDs, onD, onT, onBool, oI, oIC, oAdd, oEq, oIsN, isN_none, isN_int, isN_bool, isN_str, isN_list, isN_tup, truD, oIx, uSl, uPart, uNoP, oSl, uCB, oLen, oList, oTuple, oInt, oAbs, oAll, oAny, oSum, onB, onI, uIs, uIs2, isT, uCall, uCallP, pick, vw, vw1, okU, okX, nolU, nol, nols, startU, kOf, kQ, kT, onL, uSeqI, uRng1, uRng2, rOk, uEnum, uRep, uTupRev, uYes, ugN, ugT2, wipeU, setU, uIfQ, uRetQ, uSetQ, uPutQ, ixC, uPar, uAsgT, uChain, uCall0, sizeLine_eq, oMax2, oSortI, oStrI, oIsB, szD, List.map_cons, List.map_nil, List.length_cons, List.length_nil, List.replicate, List.cons_append, List.nil_append, List.getElem?_cons_zero, List.getElem?_cons_succ, List.set_cons_zero, List.set_cons_succ, Option.map_some, Option.map_none, List.getD, Option.getD_some, if_true, true_and, and_true, Nat.reduceAdd, Nat.reduceSub, reduceIte, Bool.false_eq_true, Bool.not_true, Bool.not_false] <;> exact h
theorem sc__law_is : FnScope ["_law_got", "_law_due"] ["_law_got", "_law_due"] (defScope s__law_is) := ⟨rfl, rfl, rfl, by decide +kernel, rfl, by decide +kernel, by decide +kernel⟩
def eqI (x : D) (i : Int) : Bool := match x with
  | .int j => j == i
  | _ => false
def fn__law_is : Fn := fun as P _ => ∃ x i, as = [.d x, .d (.int i)] ∧ P (.d (.bool (eqI x i)))
theorem is_iff {x : D} {i : Int} {P : U → Prop} {PX : Ex → Prop} : fn__law_is [.d x, .d (.int i)] P PX ↔ P (.d (.bool (eqI x i))) := by
  constructor
  · rintro ⟨x', i', e, h⟩
    cases e; exact h
  · intro h; exact ⟨x, i, rfl, h⟩
theorem eqI_self (i : Int) : eqI (.int i) i = true := by simp [eqI]
theorem has__law_is (T : Tk P K mg) {fd__law_whole : FuncData} (h__law_whole : Has P w K mg base 1 "_law_whole" s__law_whole ["_law_odd_here"] fn__law_whole fd__law_whole) : ∃ fd, Has P w K mg base 2 "_law_is" s__law_is ["_law_got", "_law_due"] fn__law_is fd := by
  obtain ⟨fd, F⟩ := T.f__law_is
  have hb := F.binds (ps := ["_law_got", "_law_due"]) fun _ _ _ _ _ _ us hl => match us, hl with | [_, _], _ => rfl
  refine ⟨fd, T.g__law_is, F.kp, F, hb, fnD F sc__law_is (by decide) fun cdv A outer s H E hr => ⟨_, _, (dss_one (ds_ret false (de_andk (KK := K) (de_own h__law_whole ⟨rfl, rfl, rfl, rfl, rfl⟩ (hr.mono (by decide)) rfl airD (da_cons (dv 0) da_nil)) (de_one (de_cmp (do_eqk (KK := K) hr.units) (dv 0) (dv 1)))))), ?_⟩⟩
  rintro as Q PX hl ⟨x, i, rfl, h⟩
  cases x <;> simp [vw_jk, at_0, at_1, at_2, at_3, at_4, ix_40, ix_41, ix_42, ix_43, boolsD_comp, intsD_comp, sh_int, sh_bool, sh_none, sh_str, ev_int, ev_bool, ev_str, ev_none, ev_ni, ev_in, uIfS, evT, ev, uRet, uRetO, uRetN, uDrop, uSet, uSetO, uMove, uFrz, uNext, uBreak, uCont, uApp, uIns, uPut, uPutA, uAug, uRaise, uVar, uC, uOp, uUn, uTru, uTst, uNot, uAnd, uOr, uAndV, uOrV, uNotV, uIf, uNil, uCons, argU, uTup, uLst, allD, onDs, onD, onT, onBool, oI, oIC, oAdd, oEq, oIsN, isN_none, isN_int, isN_bool, isN_str, isN_list, isN_tup, truD, oIx, uSl, uPart, uNoP, oSl, uCB, oLen, oList, oTuple, oInt, oAbs, oAll, oAny, oSum, onB, onI, uIs, uIs2, isT, uCall, uCallP, pick, vw, vw1, okU, okX, nolU, nol, nols, startU, kOf, kQ, kT, onL, uSeqI, uRng1, uRng2, rOk, uEnum, uRep, uTupRev, uYes, ugN, ugT2, wipeU, setU, uIfQ, uRetQ, uSetQ, uPutQ, ixC, uPar, uAsgT, uChain, uCall0, sizeLine_eq, oMax2, oSortI, oStrI, oIsB, szD, List.map_cons, List.map_nil, List.length_cons, List.length_nil, List.replicate, List.cons_append, List.nil_append, List.getElem?_cons_zero, List.getElem?_cons_succ, List.set_cons_zero, List.set_cons_succ, Option.map_some, Option.map_none, List.getD, Option.getD_some, if_true, true_and, and_true, Nat.reduceAdd, Nat.reduceSub, reduceIte, Bool.false_eq_true, Bool.not_true, Bool.not_false, whole_iff, isI] <;> exact h
theorem hasW__law_is (T : Tk P K mg) {fw__law_whole : FuncData} (hw__law_whole : HasW P w K mg base 1 "_law_whole" s__law_whole ["_law_odd_here"] fn__law_whole fw__law_whole) : ∃ fd, HasW P w K mg base 2 "_law_is" s__law_is ["_law_got", "_law_due"] fn__law_is fd := by
  obtain ⟨fd, F⟩ := T.f__law_is
  have hb := F.binds (ps := ["_law_got", "_law_due"]) fun _ _ _ _ _ _ us hl => match us, hl with | [_, _], _ => rfl
  refine ⟨fd, T.g__law_is, F.kp, F, hb, fnDW F sc__law_is (by decide) (fun cdv A outer s H E pn hr => ⟨_, _, (dss_one (ds_ret false (de_andk (KK := K) (de_ownW hw__law_whole ⟨rfl, rfl, rfl, rfl, rfl⟩ (hr.mono (by decide)) ⟨_, List.mem_cons_self⟩ rfl (da_cons (dv 0) da_nil)) (de_one (de_cmp (do_eqk (KK := K) (unitsH hr)) (dv 0) (dv 1)))))), ?_⟩) (fun _ _ _ h => h)⟩
  rintro as Q PX hl ⟨x, i, rfl, h⟩
  cases x <;> simp [vw_jk, at_0, at_1, at_2, at_3, at_4, ix_40, ix_41, ix_42, ix_43, boolsD_comp, intsD_comp, sh_int, sh_bool, sh_none, sh_str, ev_int, ev_bool, ev_str, ev_none, ev_ni, ev_in, uIfS, evT, ev, uRet, uRetO, uRetN, uDrop, uSet, uSetO, uMove, uFrz, uNext, uBreak, uCont, uApp, uIns, uPut, uPutA, uAug, uRaise, uVar, uC, uOp, uUn, uTru, uTst, uNot, uAnd, uOr, uAndV, uOrV, uNotV, uIf, uNil, uCons, argU, uTup, uLst, allD, onDs, onD, onT, onBool, oI, oIC, oAdd, oEq, oIsN, isN_none, isN_int, isN_bool, isN_str, isN_list, isN_tup, truD, oIx, uSl, uPart, uNoP, oSl, uCB, oLen, oList, oTuple, oInt, oAbs, oAll, oAny, oSum, onB, onI, uIs, uIs2, isT, uCall, uCallP, pick, vw, vw1, okU, okX, nolU, nol, nols, startU, kOf, kQ, kT, onL, uSeqI, uRng1, uRng2, rOk, uEnum, uRep, uTupRev, uYes, ugN, ugT2, wipeU, setU, uIfQ, uRetQ, uSetQ, uPutQ, ixC, uPar, uAsgT, uChain, uCall0, sizeLine_eq, oMax2, oSortI, oStrI, oIsB, szD, List.map_cons, List.map_nil, List.length_cons, List.length_nil, List.replicate, List.cons_append, List.nil_append, List.getElem?_cons_zero, List.getElem?_cons_succ, List.set_cons_zero, List.set_cons_succ, Option.map_some, Option.map_none, List.getD, Option.getD_some, if_true, true_and, and_true, Nat.reduceAdd, Nat.reduceSub, reduceIte, Bool.false_eq_true, Bool.not_true, Bool.not_false, whole_iff, isI] <;> exact h
theorem sc__law_row : FnScope ["_law_got", "_law_due", "_law_k"] ["_law_got", "_law_due"] (defScope s__law_row) := ⟨rfl, rfl, rfl, by decide +kernel, rfl, by decide +kernel, by decide +kernel⟩
def fn__law_row : Fn := fun as P _ => ∃ l : List Nat, as = [.d (.tuple (natD l)), .d (.list (natD l))] ∧ l.length ≤ 16777216 ∧ P (.d (.bool true))
theorem has__law_row (T : Tk P K mg) {fd__law_is : FuncData} (h__law_is : Has P w K mg base 2 "_law_is" s__law_is ["_law_got", "_law_due"] fn__law_is fd__law_is) : ∃ fd, Has P w K mg base 3 "_law_row" s__law_row ["_law_got", "_law_due"] fn__law_row fd := by
  obtain ⟨fd, F⟩ := T.f__law_row
  have hb := F.binds (ps := ["_law_got", "_law_due"]) fun _ _ _ _ _ _ us hl => match us, hl with | [_, _], _ => rfl
  refine ⟨fd, T.g__law_row, F.kp, F, hb, fnD F sc__law_row (by decide) fun cdv A outer s H E hr => ⟨_, _, (dss_cons (ds_if false (DW.dt (dw_or (dt_not (dt_truk (KK := K) (de_isk (KK := K) .tup (dv 0) rfl T.n_isinstance bt_isi rfl T.n_tuple bt_tuple))) (dw_or1 (dt_cmp (do_nek (KK := K) hr.units) (de_callB (dc_lenk (KK := K)) (by rfl) T.n_len bt_len (da_cons (dv 0) da_nil)) (de_callB (dc_lenk (KK := K)) (by rfl) T.n_len bt_len (da_cons (dv 1) da_nil)))))) (dss_one (ds_ret false de_bl)) dss_nil)
    (dss_cons (ds_for poD rfl (di_rng1 (de_callB (dc_lenk (KK := K)) (by rfl) T.n_len bt_len (da_cons (dv 1) da_nil)) rfl T.n_range) (dg_name 2 sc__law_row.nd) (dss_one (ds_if false (dt_not (dt_truk (KK := K) (de_own h__law_is ⟨rfl, rfl, rfl, rfl, rfl⟩ (hr.mono (by decide)) rfl airD (da_cons (de_ixk (KK := K) (dv 0) (dv 2)) (da_cons (de_ixk (KK := K) (dv 1) (dv 2)) da_nil))))) (dss_one (ds_ret false de_bl)) dss_nil)))
    (dss_one (ds_ret false de_bl)))), ?_⟩⟩
  rintro as Q PX hl ⟨l, rfl, hz, h⟩
  refine i_seq fun N hN => ?_
  simp [vw_jk, at_0, at_1, at_2, at_3, at_4, ix_40, ix_41, ix_42, ix_43, boolsD_comp, intsD_comp, sh_int, sh_bool, sh_none, sh_str, ev_int, ev_bool, ev_str, ev_none, ev_ni, ev_in, uIfS, evT, ev, uRet, uRetO, uRetN, uDrop, uSet, uSetO, uMove, uFrz, uNext, uBreak, uCont, uApp, uIns, uPut, uPutA, uAug, uRaise, uVar, uC, uOp, uUn, uTru, uTst, uNot, uAnd, uOr, uAndV, uOrV, uNotV, uIf, uNil, uCons, argU, uTup, uLst, allD, onDs, onD, onT, onBool, oI, oIC, oAdd, oEq, oIsN, isN_none, isN_int, isN_bool, isN_str, isN_list, isN_tup, truD, oIx, uSl, uPart, uNoP, oSl, uCB, oLen, oList, oTuple, oInt, oAbs, oAll, oAny, oSum, onB, onI, uIs, uIs2, isT, uCall, uCallP, pick, vw, vw1, okU, okX, nolU, nol, nols, startU, kOf, kQ, kT, onL, uSeqI, uRng1, uRng2, rOk, uEnum, uRep, uTupRev, uYes, ugN, ugT2, wipeU, setU, uIfQ, uRetQ, uSetQ, uPutQ, ixC, uPar, uAsgT, uChain, uCall0, sizeLine_eq, oMax2, oSortI, oStrI, oIsB, szD, List.map_cons, List.map_nil, List.length_cons, List.length_nil, List.replicate, List.cons_append, List.nil_append, List.getElem?_cons_zero, List.getElem?_cons_succ, List.set_cons_zero, List.set_cons_succ, Option.map_some, Option.map_none, List.getD, Option.getD_some, if_true, true_and, and_true, Nat.reduceAdd, Nat.reduceSub, reduceIte, Bool.false_eq_true, Bool.not_true, Bool.not_false, natD_len]
  rw [hN]
  refine i_seq fun N2 hN2 => ?_
  refine i_for2 ?_
  simp [vw_jk, at_0, at_1, at_2, at_3, at_4, ix_40, ix_41, ix_42, ix_43, boolsD_comp, intsD_comp, sh_int, sh_bool, sh_none, sh_str, ev_int, ev_bool, ev_str, ev_none, ev_ni, ev_in, uIfS, evT, ev, uRet, uRetO, uRetN, uDrop, uSet, uSetO, uMove, uFrz, uNext, uBreak, uCont, uApp, uIns, uPut, uPutA, uAug, uRaise, uVar, uC, uOp, uUn, uTru, uTst, uNot, uAnd, uOr, uAndV, uOrV, uNotV, uIf, uNil, uCons, argU, uTup, uLst, allD, onDs, onD, onT, onBool, oI, oIC, oAdd, oEq, oIsN, isN_none, isN_int, isN_bool, isN_str, isN_list, isN_tup, truD, oIx, uSl, uPart, uNoP, oSl, uCB, oLen, oList, oTuple, oInt, oAbs, oAll, oAny, oSum, onB, onI, uIs, uIs2, isT, uCall, uCallP, pick, vw, vw1, okU, okX, nolU, nol, nols, startU, kOf, kQ, kT, onL, uSeqI, uRng1, uRng2, rOk, uEnum, uRep, uTupRev, uYes, ugN, ugT2, wipeU, setU, uIfQ, uRetQ, uSetQ, uPutQ, ixC, uPar, uAsgT, uChain, uCall0, sizeLine_eq, oMax2, oSortI, oStrI, oIsB, szD, List.map_cons, List.map_nil, List.length_cons, List.length_nil, List.replicate, List.cons_append, List.nil_append, List.getElem?_cons_zero, List.getElem?_cons_succ, List.set_cons_zero, List.set_cons_succ, Option.map_some, Option.map_none, List.getD, Option.getD_some, if_true, true_and, and_true, Nat.reduceAdd, Nat.reduceSub, reduceIte, Bool.false_eq_true, Bool.not_true, Bool.not_false, natD_len]
  refine ⟨by omega, ?_⟩
  refine f_in (fun i s' => ∃ (o : Option D), s' = [some (.d (.tuple (natD l))), some (.d (.list (natD l))), jk o]) ⟨none, rfl⟩ (fun i d s' e hi hs NX hNX => ?_) (fun s' hs => ?_)
  · obtain ⟨o, rfl⟩ := hs
    obtain ⟨rfl, hi⟩ := get_rngD e
    have e2 : atI (natD l) (i : Int) = some (.int (l[i] : Nat)) := atI_nat rfl (by unfold natD; rw [List.getElem?_map, List.getElem?_eq_getElem hi]; rfl)
    simp [vw_jk, at_0, at_1, at_2, at_3, at_4, ix_40, ix_41, ix_42, ix_43, boolsD_comp, intsD_comp, sh_int, sh_bool, sh_none, sh_str, ev_int, ev_bool, ev_str, ev_none, ev_ni, ev_in, uIfS, evT, ev, uRet, uRetO, uRetN, uDrop, uSet, uSetO, uMove, uFrz, uNext, uBreak, uCont, uApp, uIns, uPut, uPutA, uAug, uRaise, uVar, uC, uOp, uUn, uTru, uTst, uNot, uAnd, uOr, uAndV, uOrV, uNotV, uIf, uNil, uCons, argU, uTup, uLst, allD, onDs, onD, onT, onBool, oI, oIC, oAdd, oEq, oIsN, isN_none, isN_int, isN_bool, isN_str, isN_list, isN_tup, truD, oIx, uSl, uPart, uNoP, oSl, uCB, oLen, oList, oTuple, oInt, oAbs, oAll, oAny, oSum, onB, onI, uIs, uIs2, isT, uCall, uCallP, pick, vw, vw1, okU, okX, nolU, nol, nols, startU, kOf, kQ, kT, onL, uSeqI, uRng1, uRng2, rOk, uEnum, uRep, uTupRev, uYes, ugN, ugT2, wipeU, setU, uIfQ, uRetQ, uSetQ, uPutQ, ixC, uPar, uAsgT, uChain, uCall0, sizeLine_eq, oMax2, oSortI, oStrI, oIsB, szD, List.map_cons, List.map_nil, List.length_cons, List.length_nil, List.replicate, List.cons_append, List.nil_append, List.getElem?_cons_zero, List.getElem?_cons_succ, List.set_cons_zero, List.set_cons_succ, Option.map_some, Option.map_none, List.getD, Option.getD_some, if_true, true_and, and_true, Nat.reduceAdd, Nat.reduceSub, reduceIte, Bool.false_eq_true, Bool.not_true, Bool.not_false, e2, is_iff, eqI_self]
    exact hNX _ ⟨some _, rfl⟩
  · obtain ⟨o, rfl⟩ := hs
    show N2 _
    rw [hN2]
    simp [vw_jk, at_0, at_1, at_2, at_3, at_4, ix_40, ix_41, ix_42, ix_43, boolsD_comp, intsD_comp, sh_int, sh_bool, sh_none, sh_str, ev_int, ev_bool, ev_str, ev_none, ev_ni, ev_in, uIfS, evT, ev, uRet, uRetO, uRetN, uDrop, uSet, uSetO, uMove, uFrz, uNext, uBreak, uCont, uApp, uIns, uPut, uPutA, uAug, uRaise, uVar, uC, uOp, uUn, uTru, uTst, uNot, uAnd, uOr, uAndV, uOrV, uNotV, uIf, uNil, uCons, argU, uTup, uLst, allD, onDs, onD, onT, onBool, oI, oIC, oAdd, oEq, oIsN, isN_none, isN_int, isN_bool, isN_str, isN_list, isN_tup, truD, oIx, uSl, uPart, uNoP, oSl, uCB, oLen, oList, oTuple, oInt, oAbs, oAll, oAny, oSum, onB, onI, uIs, uIs2, isT, uCall, uCallP, pick, vw, vw1, okU, okX, nolU, nol, nols, startU, kOf, kQ, kT, onL, uSeqI, uRng1, uRng2, rOk, uEnum, uRep, uTupRev, uYes, ugN, ugT2, wipeU, setU, uIfQ, uRetQ, uSetQ, uPutQ, ixC, uPar, uAsgT, uChain, uCall0, sizeLine_eq, oMax2, oSortI, oStrI, oIsB, szD, List.map_cons, List.map_nil, List.length_cons, List.length_nil, List.replicate, List.cons_append, List.nil_append, List.getElem?_cons_zero, List.getElem?_cons_succ, List.set_cons_zero, List.set_cons_succ, Option.map_some, Option.map_none, List.getD, Option.getD_some, if_true, true_and, and_true, Nat.reduceAdd, Nat.reduceSub, reduceIte, Bool.false_eq_true, Bool.not_true, Bool.not_false]
    exact h
theorem sc__law_tried : FnScope ["_law_odd_here", "_law_k"] ["_law_odd_here"] (defScope s__law_tried) := ⟨rfl, rfl, rfl, by decide +kernel, rfl, by decide +kernel, by decide +kernel⟩
def fn__law_tried : Fn := fun as P _ => ∃ y : D, as = [.d y] ∧ smI y ∧ P (.d (.bool (priD y)))
/-- trying from 2 up to b -/
theorem tried_run {n : Nat} : ∀ (f d : Nat), triedB n f d = true ↔ ∀ k, d ≤ k → k < d + f → k * k ≤ n → ¬ n % k = 0
  | 0, d => by
    constructor
    · intro _ k h1 h2; omega
    · intro _; rfl
  | f + 1, d => by
    rw [tried_step]
    by_cases h : d * d ≤ n
    · rw [if_pos h]
      by_cases h2 : n % d = 0
      · rw [if_pos h2]
        constructor
        · intro z; cases z
        · intro z; exact absurd h2 (z d (Nat.le_refl _) (by omega) h)
      · rw [if_neg h2, tried_run f (d + 1)]
        constructor
        · intro z k h3 h4 h5
          by_cases hk : k = d
          · subst hk; exact h2
          · exact z k (by omega) (by omega) h5
        · intro z k h3 h4 h5
          exact z k (by omega) (by omega) h5
    · rw [if_neg h]
      constructor
      · intro _ k h3 h4 h5
        have := Nat.mul_le_mul h3 h3
        omega
      · intro _; rfl
theorem priB_iff {n : Nat} (h1 : n ≤ 1000000) : priB n = true ↔ 2 ≤ n ∧ ∀ k, 2 ≤ k → k ≤ 1000 → k * k ≤ n → ¬ n % k = 0 := by
  unfold priB
  rw [Bool.and_eq_true, decide_eq_true_eq, tried_run]
  constructor
  · rintro ⟨a, b⟩
    exact ⟨a, fun k h2 h3 => b k h2 (by omega)⟩
  · rintro ⟨a, b⟩
    refine ⟨a, fun k h2 h3 h4 => ?_⟩
    refine b k h2 ?_ h4
    rcases Nat.lt_or_ge 1000 k with z | z
    · have := Nat.mul_le_mul z z; omega
    · exact z
theorem has__law_tried (T : Tk P K mg) {fd__law_whole : FuncData} (h__law_whole : Has P w K mg base 1 "_law_whole" s__law_whole ["_law_odd_here"] fn__law_whole fd__law_whole) : ∃ fd, Has P w K mg base 2 "_law_tried" s__law_tried ["_law_odd_here"] fn__law_tried fd := by
  obtain ⟨fd, F⟩ := T.f__law_tried
  have hb := F.binds (ps := ["_law_odd_here"]) fun _ _ _ _ _ _ us hl => match us, hl with | [_], _ => rfl
  refine ⟨fd, T.g__law_tried, F.kp, F, hb, fnD F sc__law_tried (by decide) fun cdv A outer s H E hr => ⟨_, _, (dss_cons (ds_if false (DW.dt (dw_or (dt_not (dt_truk (KK := K) (de_own h__law_whole ⟨rfl, rfl, rfl, rfl, rfl⟩ (hr.mono (by decide)) rfl airD (da_cons (dv 0) da_nil)))) (dw_or1 (dt_cmp do_lt (dv 0) de_int)))) (dss_one (ds_ret false de_bl)) dss_nil)
    (dss_cons (ds_for poD rfl (di_rng2 de_int de_int rfl T.n_range) (dg_name 1 sc__law_tried.nd) (dss_cons (ds_if false (dt_cmp do_gt (de_op do_mul (dv 1) (dv 1)) (dv 0)) (dss_one (ds_ret false de_bl)) dss_nil)
    (dss_one (ds_if false (dt_cmp (do_eqk (KK := K) hr.units) (de_op do_mod (de_callTy dc_int (by rfl) T.n_int bt_int (da_cons (dv 0) da_nil)) (dv 1)) de_int) (dss_one (ds_ret false de_bl)) dss_nil))))
    (dss_one (ds_ret false de_bl)))), ?_⟩⟩
  rintro as Q PX hl ⟨y, rfl, sy, hp⟩
  refine i_seq fun N hN => ?_
  by_cases hy : ∃ n : Nat, y = .int n ∧ 2 ≤ n
  · obtain ⟨n, rfl, n2⟩ := hy
    have sn := sy n rfl
    have n2' : ¬ (n : Int) < 2 := by omega
    have hv : priD (.int (n : Int)) = priB n := by simp [priD, show (2 : Int) ≤ n by omega]
    rw [hv] at hp
    simp [vw_jk, at_0, at_1, at_2, at_3, at_4, ix_40, ix_41, ix_42, ix_43, boolsD_comp, intsD_comp, sh_int, sh_bool, sh_none, sh_str, ev_int, ev_bool, ev_str, ev_none, ev_ni, ev_in, uIfS, evT, ev, uRet, uRetO, uRetN, uDrop, uSet, uSetO, uMove, uFrz, uNext, uBreak, uCont, uApp, uIns, uPut, uPutA, uAug, uRaise, uVar, uC, uOp, uUn, uTru, uTst, uNot, uAnd, uOr, uAndV, uOrV, uNotV, uIf, uNil, uCons, argU, uTup, uLst, allD, onDs, onD, onT, onBool, oI, oIC, oAdd, oEq, oIsN, isN_none, isN_int, isN_bool, isN_str, isN_list, isN_tup, truD, oIx, uSl, uPart, uNoP, oSl, uCB, oLen, oList, oTuple, oInt, oAbs, oAll, oAny, oSum, onB, onI, uIs, uIs2, isT, uCall, uCallP, pick, vw, vw1, okU, okX, nolU, nol, nols, startU, kOf, kQ, kT, onL, uSeqI, uRng1, uRng2, rOk, uEnum, uRep, uTupRev, uYes, ugN, ugT2, wipeU, setU, uIfQ, uRetQ, uSetQ, uPutQ, ixC, uPar, uAsgT, uChain, uCall0, sizeLine_eq, oMax2, oSortI, oStrI, oIsB, szD, List.map_cons, List.map_nil, List.length_cons, List.length_nil, List.replicate, List.cons_append, List.nil_append, List.getElem?_cons_zero, List.getElem?_cons_succ, List.set_cons_zero, List.set_cons_succ, Option.map_some, Option.map_none, List.getD, Option.getD_some, if_true, true_and, and_true, Nat.reduceAdd, Nat.reduceSub, reduceIte, Bool.false_eq_true, Bool.not_true, Bool.not_false, whole_iff, isI, n2']
    rw [hN]
    refine i_seq fun N2 hN2 => ?_
    refine i_for2 ?_
    simp [vw_jk, at_0, at_1, at_2, at_3, at_4, ix_40, ix_41, ix_42, ix_43, boolsD_comp, intsD_comp, sh_int, sh_bool, sh_none, sh_str, ev_int, ev_bool, ev_str, ev_none, ev_ni, ev_in, uIfS, evT, ev, uRet, uRetO, uRetN, uDrop, uSet, uSetO, uMove, uFrz, uNext, uBreak, uCont, uApp, uIns, uPut, uPutA, uAug, uRaise, uVar, uC, uOp, uUn, uTru, uTst, uNot, uAnd, uOr, uAndV, uOrV, uNotV, uIf, uNil, uCons, argU, uTup, uLst, allD, onDs, onD, onT, onBool, oI, oIC, oAdd, oEq, oIsN, isN_none, isN_int, isN_bool, isN_str, isN_list, isN_tup, truD, oIx, uSl, uPart, uNoP, oSl, uCB, oLen, oList, oTuple, oInt, oAbs, oAll, oAny, oSum, onB, onI, uIs, uIs2, isT, uCall, uCallP, pick, vw, vw1, okU, okX, nolU, nol, nols, startU, kOf, kQ, kT, onL, uSeqI, uRng1, uRng2, rOk, uEnum, uRep, uTupRev, uYes, ugN, ugT2, wipeU, setU, uIfQ, uRetQ, uSetQ, uPutQ, ixC, uPar, uAsgT, uChain, uCall0, sizeLine_eq, oMax2, oSortI, oStrI, oIsB, szD, List.map_cons, List.map_nil, List.length_cons, List.length_nil, List.replicate, List.cons_append, List.nil_append, List.getElem?_cons_zero, List.getElem?_cons_succ, List.set_cons_zero, List.set_cons_succ, Option.map_some, Option.map_none, List.getD, Option.getD_some, if_true, true_and, and_true, Nat.reduceAdd, Nat.reduceSub, reduceIte, Bool.false_eq_true, Bool.not_true, Bool.not_false]
    have tr : (∀ k, 2 ≤ k → k ≤ 1000 → k * k ≤ n → ¬ n % k = 0) → Q (.d (.bool true)) := fun h => by
      rw [(priB_iff (by omega)).mpr ⟨n2, h⟩] at hp; exact hp
    refine f_in (fun i s' => ∃ (o : Option D), s' = [some (.d (.int n)), jk o] ∧ ∀ k, 2 ≤ k → k < i + 2 → ¬ n % k = 0) ⟨none, rfl, fun k h1 h2 => by omega⟩ (fun i d s' e hi hs NX hNX => ?_) (fun s' hs => ?_)
    · obtain ⟨o, rfl, hk⟩ := hs
      obtain ⟨rfl, hi⟩ := get_rngD e
      refine ⟨_, rfl, ?_⟩
      refine i_seq fun N3 hN3 => ?_
      have hi2 : i < 999 := by simpa using hi
      simp [vw_jk, at_0, at_1, at_2, at_3, at_4, ix_40, ix_41, ix_42, ix_43, boolsD_comp, intsD_comp, sh_int, sh_bool, sh_none, sh_str, ev_int, ev_bool, ev_str, ev_none, ev_ni, ev_in, uIfS, evT, ev, uRet, uRetO, uRetN, uDrop, uSet, uSetO, uMove, uFrz, uNext, uBreak, uCont, uApp, uIns, uPut, uPutA, uAug, uRaise, uVar, uC, uOp, uUn, uTru, uTst, uNot, uAnd, uOr, uAndV, uOrV, uNotV, uIf, uNil, uCons, argU, uTup, uLst, allD, onDs, onD, onT, onBool, oI, oIC, oAdd, oEq, oIsN, isN_none, isN_int, isN_bool, isN_str, isN_list, isN_tup, truD, oIx, uSl, uPart, uNoP, oSl, uCB, oLen, oList, oTuple, oInt, oAbs, oAll, oAny, oSum, onB, onI, uIs, uIs2, isT, uCall, uCallP, pick, vw, vw1, okU, okX, nolU, nol, nols, startU, kOf, kQ, kT, onL, uSeqI, uRng1, uRng2, rOk, uEnum, uRep, uTupRev, uYes, ugN, ugT2, wipeU, setU, uIfQ, uRetQ, uSetQ, uPutQ, ixC, uPar, uAsgT, uChain, uCall0, sizeLine_eq, oMax2, oSortI, oStrI, oIsB, szD, List.map_cons, List.map_nil, List.length_cons, List.length_nil, List.replicate, List.cons_append, List.nil_append, List.getElem?_cons_zero, List.getElem?_cons_succ, List.set_cons_zero, List.set_cons_succ, Option.map_some, Option.map_none, List.getD, Option.getD_some, if_true, true_and, and_true, Nat.reduceAdd, Nat.reduceSub, reduceIte, Bool.false_eq_true, Bool.not_true, Bool.not_false]
      refine ⟨mulR (by omega), ?_⟩
      have e1 : ((n : Int) < (2 + i) * (2 + i)) ↔ n < (i + 2) * (i + 2) := by
        rw [show ((2 : Int) + i) = ((i + 2 : Nat) : Int) by omega, ← Int.natCast_mul]; exact Int.ofNat_lt
      simp only [e1]
      split
      · next hlt =>
        refine tr fun k h1 h2 h3 => hk k h1 ?_
        rcases Nat.lt_or_ge k (i + 2) with z | z
        · exact z
        · have := Nat.mul_le_mul z z; omega
      · next hge =>
        rw [hN3]
        simp [vw_jk, at_0, at_1, at_2, at_3, at_4, ix_40, ix_41, ix_42, ix_43, boolsD_comp, intsD_comp, sh_int, sh_bool, sh_none, sh_str, ev_int, ev_bool, ev_str, ev_none, ev_ni, ev_in, uIfS, evT, ev, uRet, uRetO, uRetN, uDrop, uSet, uSetO, uMove, uFrz, uNext, uBreak, uCont, uApp, uIns, uPut, uPutA, uAug, uRaise, uVar, uC, uOp, uUn, uTru, uTst, uNot, uAnd, uOr, uAndV, uOrV, uNotV, uIf, uNil, uCons, argU, uTup, uLst, allD, onDs, onD, onT, onBool, oI, oIC, oAdd, oEq, oIsN, isN_none, isN_int, isN_bool, isN_str, isN_list, isN_tup, truD, oIx, uSl, uPart, uNoP, oSl, uCB, oLen, oList, oTuple, oInt, oAbs, oAll, oAny, oSum, onB, onI, uIs, uIs2, isT, uCall, uCallP, pick, vw, vw1, okU, okX, nolU, nol, nols, startU, kOf, kQ, kT, onL, uSeqI, uRng1, uRng2, rOk, uEnum, uRep, uTupRev, uYes, ugN, ugT2, wipeU, setU, uIfQ, uRetQ, uSetQ, uPutQ, ixC, uPar, uAsgT, uChain, uCall0, sizeLine_eq, oMax2, oSortI, oStrI, oIsB, szD, List.map_cons, List.map_nil, List.length_cons, List.length_nil, List.replicate, List.cons_append, List.nil_append, List.getElem?_cons_zero, List.getElem?_cons_succ, List.set_cons_zero, List.set_cons_succ, Option.map_some, Option.map_none, List.getD, Option.getD_some, if_true, true_and, and_true, Nat.reduceAdd, Nat.reduceSub, reduceIte, Bool.false_eq_true, Bool.not_true, Bool.not_false]
        refine ⟨by omega, ?_⟩
        have e2 : ((n : Int) % (2 + i) = 0) ↔ n % (i + 2) = 0 := by
          rw [show ((2 : Int) + i) = ((i + 2 : Nat) : Int) by omega, ← Int.natCast_emod]; omega
        simp only [e2]
        split
        · next h0 =>
          have : priB n = false := by
            cases hb : priB n with
            | false => rfl
            | true => exact absurd h0 (((priB_iff (by omega)).mp hb).2 (i + 2) (by omega) (by omega) (by omega))
          rw [this] at hp; exact hp
        · next h0 =>
          refine hNX _ ⟨some _, rfl, fun k h1 h2 => ?_⟩
          by_cases hk2 : k = i + 2
          · subst hk2; exact h0
          · exact hk k h1 (by omega)
    · obtain ⟨o, rfl, hk⟩ := hs
      show N2 _
      rw [hN2]
      simp [vw_jk, at_0, at_1, at_2, at_3, at_4, ix_40, ix_41, ix_42, ix_43, boolsD_comp, intsD_comp, sh_int, sh_bool, sh_none, sh_str, ev_int, ev_bool, ev_str, ev_none, ev_ni, ev_in, uIfS, evT, ev, uRet, uRetO, uRetN, uDrop, uSet, uSetO, uMove, uFrz, uNext, uBreak, uCont, uApp, uIns, uPut, uPutA, uAug, uRaise, uVar, uC, uOp, uUn, uTru, uTst, uNot, uAnd, uOr, uAndV, uOrV, uNotV, uIf, uNil, uCons, argU, uTup, uLst, allD, onDs, onD, onT, onBool, oI, oIC, oAdd, oEq, oIsN, isN_none, isN_int, isN_bool, isN_str, isN_list, isN_tup, truD, oIx, uSl, uPart, uNoP, oSl, uCB, oLen, oList, oTuple, oInt, oAbs, oAll, oAny, oSum, onB, onI, uIs, uIs2, isT, uCall, uCallP, pick, vw, vw1, okU, okX, nolU, nol, nols, startU, kOf, kQ, kT, onL, uSeqI, uRng1, uRng2, rOk, uEnum, uRep, uTupRev, uYes, ugN, ugT2, wipeU, setU, uIfQ, uRetQ, uSetQ, uPutQ, ixC, uPar, uAsgT, uChain, uCall0, sizeLine_eq, oMax2, oSortI, oStrI, oIsB, szD, List.map_cons, List.map_nil, List.length_cons, List.length_nil, List.replicate, List.cons_append, List.nil_append, List.getElem?_cons_zero, List.getElem?_cons_succ, List.set_cons_zero, List.set_cons_succ, Option.map_some, Option.map_none, List.getD, Option.getD_some, if_true, true_and, and_true, Nat.reduceAdd, Nat.reduceSub, reduceIte, Bool.false_eq_true, Bool.not_true, Bool.not_false]
      exact tr fun k h1 h2 _ => hk k h1 (by rw [rngD_len]; omega)
  · have hv : priD y = false := by
      cases h : priD y with
      | false => rfl
      | true => obtain ⟨p, h1, h2⟩ := priD_int h; exact absurd ⟨p, h1, h2⟩ hy
    rw [hv] at hp
    cases y with
    | int i =>
      have : i < 2 := by
        by_cases z : i < 2
        · exact z
        · exact absurd ⟨i.toNat, by rw [Int.toNat_of_nonneg (by omega)], by omega⟩ hy
      simp [vw_jk, at_0, at_1, at_2, at_3, at_4, ix_40, ix_41, ix_42, ix_43, boolsD_comp, intsD_comp, sh_int, sh_bool, sh_none, sh_str, ev_int, ev_bool, ev_str, ev_none, ev_ni, ev_in, uIfS, evT, ev, uRet, uRetO, uRetN, uDrop, uSet, uSetO, uMove, uFrz, uNext, uBreak, uCont, uApp, uIns, uPut, uPutA, uAug, uRaise, uVar, uC, uOp, uUn, uTru, uTst, uNot, uAnd, uOr, uAndV, uOrV, uNotV, uIf, uNil, uCons, argU, uTup, uLst, allD, onDs, onD, onT, onBool, oI, oIC, oAdd, oEq, oIsN, isN_none, isN_int, isN_bool, isN_str, isN_list, isN_tup, truD, oIx, uSl, uPart, uNoP, oSl, uCB, oLen, oList, oTuple, oInt, oAbs, oAll, oAny, oSum, onB, onI, uIs, uIs2, isT, uCall, uCallP, pick, vw, vw1, okU, okX, nolU, nol, nols, startU, kOf, kQ, kT, onL, uSeqI, uRng1, uRng2, rOk, uEnum, uRep, uTupRev, uYes, ugN, ugT2, wipeU, setU, uIfQ, uRetQ, uSetQ, uPutQ, ixC, uPar, uAsgT, uChain, uCall0, sizeLine_eq, oMax2, oSortI, oStrI, oIsB, szD, List.map_cons, List.map_nil, List.length_cons, List.length_nil, List.replicate, List.cons_append, List.nil_append, List.getElem?_cons_zero, List.getElem?_cons_succ, List.set_cons_zero, List.set_cons_succ, Option.map_some, Option.map_none, List.getD, Option.getD_some, if_true, true_and, and_true, Nat.reduceAdd, Nat.reduceSub, reduceIte, Bool.false_eq_true, Bool.not_true, Bool.not_false, whole_iff, isI, this]
      exact hp
    | _ =>
      simp [vw_jk, at_0, at_1, at_2, at_3, at_4, ix_40, ix_41, ix_42, ix_43, boolsD_comp, intsD_comp, sh_int, sh_bool, sh_none, sh_str, ev_int, ev_bool, ev_str, ev_none, ev_ni, ev_in, uIfS, evT, ev, uRet, uRetO, uRetN, uDrop, uSet, uSetO, uMove, uFrz, uNext, uBreak, uCont, uApp, uIns, uPut, uPutA, uAug, uRaise, uVar, uC, uOp, uUn, uTru, uTst, uNot, uAnd, uOr, uAndV, uOrV, uNotV, uIf, uNil, uCons, argU, uTup, uLst, allD, onDs, onD, onT, onBool, oI, oIC, oAdd, oEq, oIsN, isN_none, isN_int, isN_bool, isN_str, isN_list, isN_tup, truD, oIx, uSl, uPart, uNoP, oSl, uCB, oLen, oList, oTuple, oInt, oAbs, oAll, oAny, oSum, onB, onI, uIs, uIs2, isT, uCall, uCallP, pick, vw, vw1, okU, okX, nolU, nol, nols, startU, kOf, kQ, kT, onL, uSeqI, uRng1, uRng2, rOk, uEnum, uRep, uTupRev, uYes, ugN, ugT2, wipeU, setU, uIfQ, uRetQ, uSetQ, uPutQ, ixC, uPar, uAsgT, uChain, uCall0, sizeLine_eq, oMax2, oSortI, oStrI, oIsB, szD, List.map_cons, List.map_nil, List.length_cons, List.length_nil, List.replicate, List.cons_append, List.nil_append, List.getElem?_cons_zero, List.getElem?_cons_succ, List.set_cons_zero, List.set_cons_succ, Option.map_some, Option.map_none, List.getD, Option.getD_some, if_true, true_and, and_true, Nat.reduceAdd, Nat.reduceSub, reduceIte, Bool.false_eq_true, Bool.not_true, Bool.not_false, whole_iff, isI]
      exact hp
theorem sc__law_common : FnScope ["_law_low", "_law_high", "_law_best", "_law_k"] ["_law_low", "_law_high"] (defScope s__law_common) := ⟨rfl, rfl, rfl, by decide +kernel, rfl, by decide +kernel, by decide +kernel⟩
def fn__law_common : Fn := fun as P _ => ∃ a b : Nat, as = [.d (.int a), .d (.int b)] ∧ 1 ≤ a ∧ a ≤ 1000 ∧ 1 ≤ b ∧ P (.d (.int (Nat.gcd a b : Nat)))
theorem has__law_common (T : Tk P K mg) : ∃ fd, Has P w K mg base 1 "_law_common" s__law_common ["_law_low", "_law_high"] fn__law_common fd := by
  obtain ⟨fd, F⟩ := T.f__law_common
  have hb := F.binds (ps := ["_law_low", "_law_high"]) fun _ _ _ _ _ _ us hl => match us, hl with | [_, _], _ => rfl
  refine ⟨fd, T.g__law_common, F.kp, F, hb, fnD F sc__law_common (by decide) fun cdv A outer s H E hr => ⟨_, _, (dss_cons (ds_set false 2 de_int sc__law_common.nd)
    (dss_cons (ds_for poD rfl (di_rng2 de_int (de_op (do_addk (KK := K)) (dv 0) de_int) rfl T.n_range) (dg_name 3 sc__law_common.nd) (dss_one (ds_if false (DW.dt (dw_and (dt_cmp (do_eqk (KK := K) hr.units) (de_op do_mod (de_callTy dc_int (by rfl) T.n_int bt_int (da_cons (dv 0) da_nil)) (dv 3)) de_int) (dw_and1 (dt_cmp (do_eqk (KK := K) hr.units) (de_op do_mod (de_callTy dc_int (by rfl) T.n_int bt_int (da_cons (dv 1) da_nil)) (dv 3)) de_int)))) (dss_one (ds_set false 2 (dv 3) sc__law_common.nd)) dss_nil)))
    (dss_one (ds_ret false (dv 2))))), ?_⟩⟩
  rintro as Q PX hl ⟨a, b, rfl, a0, a1, b0, hp⟩
  refine i_seq fun N hN => ?_
  simp [vw_jk, at_0, at_1, at_2, at_3, at_4, ix_40, ix_41, ix_42, ix_43, boolsD_comp, intsD_comp, sh_int, sh_bool, sh_none, sh_str, ev_int, ev_bool, ev_str, ev_none, ev_ni, ev_in, uIfS, evT, ev, uRet, uRetO, uRetN, uDrop, uSet, uSetO, uMove, uFrz, uNext, uBreak, uCont, uApp, uIns, uPut, uPutA, uAug, uRaise, uVar, uC, uOp, uUn, uTru, uTst, uNot, uAnd, uOr, uAndV, uOrV, uNotV, uIf, uNil, uCons, argU, uTup, uLst, allD, onDs, onD, onT, onBool, oI, oIC, oAdd, oEq, oIsN, isN_none, isN_int, isN_bool, isN_str, isN_list, isN_tup, truD, oIx, uSl, uPart, uNoP, oSl, uCB, oLen, oList, oTuple, oInt, oAbs, oAll, oAny, oSum, onB, onI, uIs, uIs2, isT, uCall, uCallP, pick, vw, vw1, okU, okX, nolU, nol, nols, startU, kOf, kQ, kT, onL, uSeqI, uRng1, uRng2, rOk, uEnum, uRep, uTupRev, uYes, ugN, ugT2, wipeU, setU, uIfQ, uRetQ, uSetQ, uPutQ, ixC, uPar, uAsgT, uChain, uCall0, sizeLine_eq, oMax2, oSortI, oStrI, oIsB, szD, List.map_cons, List.map_nil, List.length_cons, List.length_nil, List.replicate, List.cons_append, List.nil_append, List.getElem?_cons_zero, List.getElem?_cons_succ, List.set_cons_zero, List.set_cons_succ, Option.map_some, Option.map_none, List.getD, Option.getD_some, if_true, true_and, and_true, Nat.reduceAdd, Nat.reduceSub, reduceIte, Bool.false_eq_true, Bool.not_true, Bool.not_false]
  rw [hN]
  refine i_seq fun N2 hN2 => ?_
  refine i_for2 ?_
  simp [vw_jk, at_0, at_1, at_2, at_3, at_4, ix_40, ix_41, ix_42, ix_43, boolsD_comp, intsD_comp, sh_int, sh_bool, sh_none, sh_str, ev_int, ev_bool, ev_str, ev_none, ev_ni, ev_in, uIfS, evT, ev, uRet, uRetO, uRetN, uDrop, uSet, uSetO, uMove, uFrz, uNext, uBreak, uCont, uApp, uIns, uPut, uPutA, uAug, uRaise, uVar, uC, uOp, uUn, uTru, uTst, uNot, uAnd, uOr, uAndV, uOrV, uNotV, uIf, uNil, uCons, argU, uTup, uLst, allD, onDs, onD, onT, onBool, oI, oIC, oAdd, oEq, oIsN, isN_none, isN_int, isN_bool, isN_str, isN_list, isN_tup, truD, oIx, uSl, uPart, uNoP, oSl, uCB, oLen, oList, oTuple, oInt, oAbs, oAll, oAny, oSum, onB, onI, uIs, uIs2, isT, uCall, uCallP, pick, vw, vw1, okU, okX, nolU, nol, nols, startU, kOf, kQ, kT, onL, uSeqI, uRng1, uRng2, rOk, uEnum, uRep, uTupRev, uYes, ugN, ugT2, wipeU, setU, uIfQ, uRetQ, uSetQ, uPutQ, ixC, uPar, uAsgT, uChain, uCall0, sizeLine_eq, oMax2, oSortI, oStrI, oIsB, szD, List.map_cons, List.map_nil, List.length_cons, List.length_nil, List.replicate, List.cons_append, List.nil_append, List.getElem?_cons_zero, List.getElem?_cons_succ, List.set_cons_zero, List.set_cons_succ, Option.map_some, Option.map_none, List.getD, Option.getD_some, if_true, true_and, and_true, Nat.reduceAdd, Nat.reduceSub, reduceIte, Bool.false_eq_true, Bool.not_true, Bool.not_false]
  refine ⟨by omega, ?_⟩
  refine f_in (fun i s' => ∃ (x : Nat) (o : Option D), s' = [some (.d (.int a)), some (.d (.int b)), some (.d (.int x)), jk o] ∧ x ∣ a ∧ x ∣ b ∧ ∀ k, k ≤ i → k ∣ a → k ∣ b → k ≤ x) ⟨1, none, rfl, Nat.one_dvd _, Nat.one_dvd _, fun k h1 _ _ => by omega⟩ (fun i d s' e hi hs NX hNX => ?_) (fun s' hs => ?_)
  · obtain ⟨x, o, rfl, h1, h2, h3⟩ := hs
    obtain ⟨rfl, hi⟩ := get_rngD e
    refine ⟨_, rfl, ?_⟩
    have hi : i < a := by simpa [rngD_len] using hi
    have e2 : ((a : Int) % (1 + i) = 0) ↔ (i + 1) ∣ a := by
      rw [show ((1 : Int) + i) = ((i + 1 : Nat) : Int) by omega, ← Int.natCast_emod, Nat.dvd_iff_mod_eq_zero]; omega
    have e3 : ((b : Int) % (1 + i) = 0) ↔ (i + 1) ∣ b := by
      rw [show ((1 : Int) + i) = ((i + 1 : Nat) : Int) by omega, ← Int.natCast_emod, Nat.dvd_iff_mod_eq_zero]; omega
    simp [vw_jk, at_0, at_1, at_2, at_3, at_4, ix_40, ix_41, ix_42, ix_43, boolsD_comp, intsD_comp, sh_int, sh_bool, sh_none, sh_str, ev_int, ev_bool, ev_str, ev_none, ev_ni, ev_in, uIfS, evT, ev, uRet, uRetO, uRetN, uDrop, uSet, uSetO, uMove, uFrz, uNext, uBreak, uCont, uApp, uIns, uPut, uPutA, uAug, uRaise, uVar, uC, uOp, uUn, uTru, uTst, uNot, uAnd, uOr, uAndV, uOrV, uNotV, uIf, uNil, uCons, argU, uTup, uLst, allD, onDs, onD, onT, onBool, oI, oIC, oAdd, oEq, oIsN, isN_none, isN_int, isN_bool, isN_str, isN_list, isN_tup, truD, oIx, uSl, uPart, uNoP, oSl, uCB, oLen, oList, oTuple, oInt, oAbs, oAll, oAny, oSum, onB, onI, uIs, uIs2, isT, uCall, uCallP, pick, vw, vw1, okU, okX, nolU, nol, nols, startU, kOf, kQ, kT, onL, uSeqI, uRng1, uRng2, rOk, uEnum, uRep, uTupRev, uYes, ugN, ugT2, wipeU, setU, uIfQ, uRetQ, uSetQ, uPutQ, ixC, uPar, uAsgT, uChain, uCall0, sizeLine_eq, oMax2, oSortI, oStrI, oIsB, szD, List.map_cons, List.map_nil, List.length_cons, List.length_nil, List.replicate, List.cons_append, List.nil_append, List.getElem?_cons_zero, List.getElem?_cons_succ, List.set_cons_zero, List.set_cons_succ, Option.map_some, Option.map_none, List.getD, Option.getD_some, if_true, true_and, and_true, Nat.reduceAdd, Nat.reduceSub, reduceIte, Bool.false_eq_true, Bool.not_true, Bool.not_false, e2, e3]
    refine ⟨by omega, ?_⟩
    have hno : ¬ ((i + 1) ∣ a ∧ (i + 1) ∣ b) → NX [some (.d (.int a)), some (.d (.int b)), some (.d (.int x)), some (.d (.int (1 + i)))] := fun hn => hNX _ ⟨x, some _, rfl, h1, h2, fun k k1 k2 k3 => by
      by_cases hk : k = i + 1
      · subst hk; exact absurd ⟨k2, k3⟩ hn
      · exact h3 k (by omega) k2 k3⟩
    split
    · next h4 =>
      refine ⟨by omega, ?_⟩
      split
      · next h5 => exact hNX _ ⟨i + 1, some _, by rw [show ((1 : Int) + i) = ((i + 1 : Nat) : Int) by omega]; rfl, h4, h5, fun k k1 _ _ => k1⟩
      · next h5 => exact hno fun z => h5 z.2
    · next h4 => exact hno fun z => h4 z.1
  · obtain ⟨x, o, rfl, h1, h2, h3⟩ := hs
    show N2 _
    rw [hN2]
    simp [vw_jk, at_0, at_1, at_2, at_3, at_4, ix_40, ix_41, ix_42, ix_43, boolsD_comp, intsD_comp, sh_int, sh_bool, sh_none, sh_str, ev_int, ev_bool, ev_str, ev_none, ev_ni, ev_in, uIfS, evT, ev, uRet, uRetO, uRetN, uDrop, uSet, uSetO, uMove, uFrz, uNext, uBreak, uCont, uApp, uIns, uPut, uPutA, uAug, uRaise, uVar, uC, uOp, uUn, uTru, uTst, uNot, uAnd, uOr, uAndV, uOrV, uNotV, uIf, uNil, uCons, argU, uTup, uLst, allD, onDs, onD, onT, onBool, oI, oIC, oAdd, oEq, oIsN, isN_none, isN_int, isN_bool, isN_str, isN_list, isN_tup, truD, oIx, uSl, uPart, uNoP, oSl, uCB, oLen, oList, oTuple, oInt, oAbs, oAll, oAny, oSum, onB, onI, uIs, uIs2, isT, uCall, uCallP, pick, vw, vw1, okU, okX, nolU, nol, nols, startU, kOf, kQ, kT, onL, uSeqI, uRng1, uRng2, rOk, uEnum, uRep, uTupRev, uYes, ugN, ugT2, wipeU, setU, uIfQ, uRetQ, uSetQ, uPutQ, ixC, uPar, uAsgT, uChain, uCall0, sizeLine_eq, oMax2, oSortI, oStrI, oIsB, szD, List.map_cons, List.map_nil, List.length_cons, List.length_nil, List.replicate, List.cons_append, List.nil_append, List.getElem?_cons_zero, List.getElem?_cons_succ, List.set_cons_zero, List.set_cons_succ, Option.map_some, Option.map_none, List.getD, Option.getD_some, if_true, true_and, and_true, Nat.reduceAdd, Nat.reduceSub, reduceIte, Bool.false_eq_true, Bool.not_true, Bool.not_false]
    have h3 : ∀ k, k ≤ a → k ∣ a → k ∣ b → k ≤ x := fun k hk => h3 k (by simpa [rngD_len] using hk)
    have g1 : Nat.gcd a b ≤ x := h3 _ (Nat.gcd_le_left b (by omega)) (Nat.gcd_dvd_left a b) (Nat.gcd_dvd_right a b)
    have g2 : x ≤ Nat.gcd a b := Nat.le_of_dvd (Nat.gcd_pos_of_pos_left b (by omega)) (Nat.dvd_gcd h1 h2)
    rw [show x = Nat.gcd a b by omega]
    exact hp
theorem sc__law_asked : FnScope ["_law_name", "_law_low", "_law_high", "_law_lap"] ["_law_name", "_law_low", "_law_high", "_law_lap"] (defScope s__law_asked) := ⟨rfl, rfl, rfl, by decide +kernel, rfl, by decide +kernel, by decide +kernel⟩
def fn__law_asked (K : Fr) : Fn := fun as P PX => ∃ (nm : Str) (a : Int) (y : D) (lap : Int), as = [.d (.str nm), .d (.int a), .d y, .d (.int lap)] ∧
  ((nm = "gcd" ∧ fn_gcd_of K [.d (.int a), .d y] P PX) ∨ (nm = "lcm" ∧ fn_lcm_of K [.d (.int a), .d y] P PX) ∨ (nm = "turns" ∧ fn_turns_of K [.d (.int a), .d y] P PX) ∨ (nm = "inverse" ∧ fn_inverse_of K [.d (.int a), .d y] P PX) ∨ (nm = "exponent" ∧ fn_exponent_in K [.d (.int a), .d y] P PX))
theorem sk_gcd : PyData.strOk (Str.ofString "gcd") = true := by decide +kernel
theorem sk_lcm : PyData.strOk (Str.ofString "lcm") = true := by decide +kernel
theorem sk_turns : PyData.strOk (Str.ofString "turns") = true := by decide +kernel
theorem sk_inverse : PyData.strOk (Str.ofString "inverse") = true := by decide +kernel
theorem sk_exponent : PyData.strOk (Str.ofString "exponent") = true := by decide +kernel
theorem has__law_asked (T : Tk P K mg) {fd_exponent_in : FuncData} (h_exponent_in : Has P w K mg base 4 "exponent_in" s_exponent_in ["many", "prime"] (fn_exponent_in K) fd_exponent_in) {fd_gcd_of : FuncData} (h_gcd_of : Has P w K mg base 4 "gcd_of" s_gcd_of ["many", "other"] (fn_gcd_of K) fd_gcd_of) {fd_lcm_of : FuncData} (h_lcm_of : Has P w K mg base 5 "lcm_of" s_lcm_of ["many", "other"] (fn_lcm_of K) fd_lcm_of) {fd_turns_of : FuncData} (h_turns_of : Has P w K mg base 5 "turns_of" s_turns_of ["wheel", "place"] (fn_turns_of K) fd_turns_of) {fd_inverse_of : FuncData} (h_inverse_of : Has P w K mg base 4 "inverse_of" s_inverse_of ["wheel", "place"] (fn_inverse_of K) fd_inverse_of) : ∃ fd, Has P w K mg base 6 "_law_asked" s__law_asked ["_law_name", "_law_low", "_law_high", "_law_lap"] (fn__law_asked K) fd := by
  obtain ⟨fd, F⟩ := T.f__law_asked
  have hb := F.binds (ps := ["_law_name", "_law_low", "_law_high", "_law_lap"]) fun _ _ _ _ _ _ us hl => match us, hl with | [_, _, _, _], _ => rfl
  refine ⟨fd, T.g__law_asked, F.kp, F, hb, fnD F sc__law_asked (by decide) fun cdv A outer s H E hr => ⟨_, _, (dss_cons (ds_if false (dt_cmp (do_eqk (KK := K) hr.units) (dv 0) de_str) (dss_one (ds_ret false (de_if (dt_cmp (do_eqk (KK := K) hr.units) (dv 3) de_int) (de_own h_gcd_of ⟨rfl, rfl, rfl, rfl, rfl⟩ (hr.mono (by decide)) rfl airD (da_cons (dv 1) (da_cons (dv 2) da_nil))) (de_ownK0 h_gcd_of ⟨rfl, rfl, rfl, rfl, rfl⟩ (hr.mono (by decide)) rfl (kb_gcd_of_0 h_gcd_of.fu) airD (dk_cons (dv 2) (dk_cons (dv 1) dk_nil)))))) dss_nil)
    (dss_cons (ds_if false (dt_cmp (do_eqk (KK := K) hr.units) (dv 0) de_str) (dss_one (ds_ret false (de_if (dt_cmp (do_eqk (KK := K) hr.units) (dv 3) de_int) (de_own h_lcm_of ⟨rfl, rfl, rfl, rfl, rfl⟩ (hr.mono (by decide)) rfl airD (da_cons (dv 1) (da_cons (dv 2) da_nil))) (de_ownK0 h_lcm_of ⟨rfl, rfl, rfl, rfl, rfl⟩ (hr.mono (by decide)) rfl (kb_lcm_of_0 h_lcm_of.fu) airD (dk_cons (dv 2) (dk_cons (dv 1) dk_nil)))))) dss_nil)
    (dss_cons (ds_if false (dt_cmp (do_eqk (KK := K) hr.units) (dv 0) de_str) (dss_one (ds_ret false (de_if (dt_cmp (do_eqk (KK := K) hr.units) (dv 3) de_int) (de_own h_turns_of ⟨rfl, rfl, rfl, rfl, rfl⟩ (hr.mono (by decide)) rfl airD (da_cons (dv 1) (da_cons (dv 2) da_nil))) (de_ownK0 h_turns_of ⟨rfl, rfl, rfl, rfl, rfl⟩ (hr.mono (by decide)) rfl (kb_turns_of_0 h_turns_of.fu) airD (dk_cons (dv 2) (dk_cons (dv 1) dk_nil)))))) dss_nil)
    (dss_cons (ds_if false (dt_cmp (do_eqk (KK := K) hr.units) (dv 0) de_str) (dss_one (ds_ret false (de_if (dt_cmp (do_eqk (KK := K) hr.units) (dv 3) de_int) (de_own h_inverse_of ⟨rfl, rfl, rfl, rfl, rfl⟩ (hr.mono (by decide)) rfl airD (da_cons (dv 1) (da_cons (dv 2) da_nil))) (de_ownK0 h_inverse_of ⟨rfl, rfl, rfl, rfl, rfl⟩ (hr.mono (by decide)) rfl (kb_inverse_of_0 h_inverse_of.fu) airD (dk_cons (dv 2) (dk_cons (dv 1) dk_nil)))))) dss_nil)
    (dss_one (ds_ret false (de_if (dt_cmp (do_eqk (KK := K) hr.units) (dv 3) de_int) (de_own h_exponent_in ⟨rfl, rfl, rfl, rfl, rfl⟩ (hr.mono (by decide)) rfl airD (da_cons (dv 1) (da_cons (dv 2) da_nil))) (de_ownK0 h_exponent_in ⟨rfl, rfl, rfl, rfl, rfl⟩ (hr.mono (by decide)) rfl (kb_exponent_in_0 h_exponent_in.fu) airD (dk_cons (dv 2) (dk_cons (dv 1) dk_nil)))))))))), ?_⟩⟩
  rintro as Q PX hl ⟨nm, a, y, lap, rfl, h⟩
  rcases h with ⟨rfl, h⟩ | ⟨rfl, h⟩ | ⟨rfl, h⟩ | ⟨rfl, h⟩ | ⟨rfl, h⟩
  all_goals simp [uSeq, vw_jk, at_0, at_1, at_2, at_3, at_4, ix_40, ix_41, ix_42, ix_43, boolsD_comp, intsD_comp, sh_int, sh_bool, sh_none, sh_str, ev_int, ev_bool, ev_str, ev_none, ev_ni, ev_in, uIfS, evT, ev, uRet, uRetO, uRetN, uDrop, uSet, uSetO, uMove, uFrz, uNext, uBreak, uCont, uApp, uIns, uPut, uPutA, uAug, uRaise, uVar, uC, uOp, uUn, uTru, uTst, uNot, uAnd, uOr, uAndV, uOrV, uNotV, uIf, uNil, uCons, argU, uTup, uLst, allD, onDs, onD, onT, onBool, oI, oIC, oAdd, oEq, oIsN, isN_none, isN_int, isN_bool, isN_str, isN_list, isN_tup, truD, oIx, uSl, uPart, uNoP, oSl, uCB, oLen, oList, oTuple, oInt, oAbs, oAll, oAny, oSum, onB, onI, uIs, uIs2, isT, uCall, uCallP, pick, vw, vw1, okU, okX, nolU, nol, nols, startU, kOf, kQ, kT, onL, uSeqI, uRng1, uRng2, rOk, uEnum, uRep, uTupRev, uYes, ugN, ugT2, wipeU, setU, uIfQ, uRetQ, uSetQ, uPutQ, ixC, uPar, uAsgT, uChain, uCall0, sizeLine_eq, oMax2, oSortI, oStrI, oIsB, szD, List.map_cons, List.map_nil, List.length_cons, List.length_nil, List.replicate, List.cons_append, List.nil_append, List.getElem?_cons_zero, List.getElem?_cons_succ, List.set_cons_zero, List.set_cons_succ, Option.map_some, Option.map_none, List.getD, Option.getD_some, if_true, true_and, and_true, Nat.reduceAdd, Nat.reduceSub, reduceIte, Bool.false_eq_true, Bool.not_true, Bool.not_false, pick, sk_gcd, sk_lcm, sk_turns, sk_inverse, sk_exponent]
  all_goals first | exact h | skip
  all_goals (repeat rw [if_neg (by decide +kernel)])
  all_goals exact h
theorem sc__law_refused : FnScope ["_law_name", "_law_low", "_law_high", "_law_lap", "_law_due", "e"] ["_law_name", "_law_low", "_law_high", "_law_lap", "_law_due"] (defScope s__law_refused) := ⟨rfl, rfl, rfl, by decide +kernel, rfl, by decide +kernel, by decide +kernel⟩
def fn__law_refused (K : Fr) : Fn := fun as P PX => ∃ (nm : Str) (a : Int) (y : D) (lap : Int) (due : Str), as = [.d (.str nm), .d (.int a), .d y, .d (.int lap), .d (.str due)] ∧ PyData.strOk due = true ∧ fn__law_asked K [.d (.str nm), .d (.int a), .d y, .d (.int lap)] (fun _ => False) (fun ex => ex = refused K due) ∧ P (.d (.bool true))
theorem lk_word {a b : D} : List.lookup ("word" : Str) [(("at" : Str), a), (("word" : Str), b)] = some b := by
  rw [List.lookup, show (("word" : Str) == ("at" : Str)) = false from by decide]; simp [List.lookup]
theorem lk_at {a b : D} : List.lookup ("at" : Str) [(("at" : Str), a), (("word" : Str), b)] = some a := by simp [List.lookup]
theorem asked_mono {K : Fr} {as : List U} {P P' : U → Prop} {X X' : Ex → Prop} (h : fn__law_asked K as P X) (hp : ∀ r, P r → P' r) (hx : ∀ x, X x → X' x) : fn__law_asked K as P' X' := by
  obtain ⟨nm, a, y, lap, rfl, h⟩ := h
  refine ⟨nm, a, y, lap, rfl, ?_⟩
  rcases h with ⟨rfl, a, y, e, h1, h2⟩ | ⟨rfl, a, y, e, h0, h1, h2⟩ | ⟨rfl, a, y, e, h0, h0', h1, h2⟩ | ⟨rfl, a, y, e, h0, h0', h1, h2⟩ | ⟨rfl, a, y, e, h0, h0', h1, h2⟩
  · exact .inl ⟨rfl, a, y, e, fun z => hx _ (h1 z), fun b z => hp _ (h2 b z)⟩
  · exact .inr (.inl ⟨rfl, a, y, e, h0, fun z => hx _ (h1 z), fun b z w => ⟨(h2 b z w).1, hp _ (h2 b z w).2⟩⟩)
  · exact .inr (.inr (.inl ⟨rfl, a, y, e, h0, h0', fun z => hx _ (h1 z), fun b z w => hp _ (h2 b z w)⟩))
  · exact .inr (.inr (.inr (.inl ⟨rfl, a, y, e, h0, h0', fun z => hx _ (h1 z), fun b z w => ⟨fun q => hp _ ((h2 b z w).1 q), fun q r r0 r1 r2 => hp _ ((h2 b z w).2 q r r0 r1 r2)⟩⟩)))
  · exact .inr (.inr (.inr (.inr ⟨rfl, a, y, e, h0, h0', fun z => hx _ (h1 z), fun pr p c x z w q => hp _ (h2 pr p c x z w q)⟩)))
theorem has__law_refused (T : Tk P K mg) {fd__law_asked : FuncData} (h__law_asked : Has P w K mg base 6 "_law_asked" s__law_asked ["_law_name", "_law_low", "_law_high", "_law_lap"] (fn__law_asked K) fd__law_asked) {fw__law_is : FuncData} (hw__law_is : HasW P w K mg base 2 "_law_is" s__law_is ["_law_got", "_law_due"] fn__law_is fw__law_is) : ∃ fd, Has P w K mg base 7 "_law_refused" s__law_refused ["_law_name", "_law_low", "_law_high", "_law_lap", "_law_due"] (fn__law_refused K) fd := by
  obtain ⟨fd, F⟩ := T.f__law_refused
  have hb := F.binds (ps := ["_law_name", "_law_low", "_law_high", "_law_lap", "_law_due"]) fun _ _ _ _ _ _ us hl => match us, hl with | [_, _, _, _, _], _ => rfl
  have hxf : ∀ C, csT K C → XfC K C := fun C h => by rw [h]; exact T.xf
  have hec : ∀ C, csT K C → ExcC K C := fun C h => by rw [h]; exact T.ec
  have hno_word : ∀ C, csT K C → PySem.W.findIn K (.ref C) "word" = some none := fun C h => by rw [h]; exact T.nw
  have hno_at : ∀ C, csT K C → PySem.W.findIn K (.ref C) "at" = some none := fun C h => by rw [h]; exact T.na
  have hk_BoardError : ∀ C, csT K C → PySem.W.kitOne K (.ref C) (.ref (He.ga K "BoardError")) = some true := fun C h => by rw [h]; exact T.i1
  have hk_WheelError : ∀ C, csT K C → PySem.W.kitOne K (.ref C) (.ref (He.ga K "WheelError")) = some true := fun C h => by rw [h]; exact T.i2
  have hk_ValueError : ∀ C, csT K C → PySem.W.kitOne K (.ref C) (.type "ValueError") = some true := fun C h => by rw [h]; exact T.i3
  have hk_PaperError : ∀ C, csT K C → PySem.W.kitOne K (.ref C) (.ref (He.ga K "PaperError")) = some false := fun C h => by rw [h]; exact T.i4
  have hk_LiveError : ∀ C, csT K C → PySem.W.kitOne K (.ref C) (.ref (He.ga K "LiveError")) = some false := fun C h => by rw [h]; exact T.i5
  have hk_TextError : ∀ C, csT K C → PySem.W.kitOne K (.ref C) (.ref (He.ga K "TextError")) = some false := fun C h => by rw [h]; exact T.i6
  refine ⟨fd, T.g__law_refused, F.kp, F, hb, fnD F sc__law_refused (by decide) fun cdv A outer s H E hr => ⟨_, _, (dss_cons (ds_tryT (i := 5) (c := .ref (He.ga K "NotUsable")) (csT K) rfl rfl rfl sc__law_refused.nd rfl rfl ⟨rfl, by decide, .inl T.g_NotUsable⟩ (fun W pn xe tk po => (dss_one (ds_expr false (de_own h__law_asked ⟨rfl, rfl, rfl, rfl, rfl⟩ (hr.mono (by decide)) rfl (fun σ => passAt tk σ) (da_cons (dv 0) (da_cons (dv 1) (da_cons (dv 2) (da_cons (dv 3) da_nil)))))))) (fun C a dd oe pn hcs hz hfl => (dss_cons (ds_if false (DW.dt (dw_or (dt_not (dt_truk (KK := K) (de_isXk (KK := K) (X := (XD P w K mg base ["_law_name", "_law_low", "_law_high", "_law_lap", "_law_due", "e"] "_law_refused" (defScope s__law_refused) (He.ga K "_law_refused") cdv A outer s H E)) (i := 5) (x := "e") (nm := "BoardError") (hec _ hcs) hz hfl rfl (.inl rfl) rfl T.n_isinstance rfl T.g_BoardError (hk_BoardError _ hcs)))) (dw_or (dt_not (dt_truk (KK := K) (de_isXk (KK := K) (X := (XD P w K mg base ["_law_name", "_law_low", "_law_high", "_law_lap", "_law_due", "e"] "_law_refused" (defScope s__law_refused) (He.ga K "_law_refused") cdv A outer s H E)) (i := 5) (x := "e") (nm := "WheelError") (hec _ hcs) hz hfl rfl (.inl rfl) rfl T.n_isinstance rfl T.g_WheelError (hk_WheelError _ hcs)))) (dw_or1 (dt_not (dt_truk (KK := K) (de_isXbk (KK := K) (X := (XD P w K mg base ["_law_name", "_law_low", "_law_high", "_law_lap", "_law_due", "e"] "_law_refused" (defScope s__law_refused) (He.ga K "_law_refused") cdv A outer s H E)) (i := 5) (x := "e") (nm := "ValueError") (hec _ hcs) hz hfl rfl (.inl rfl) rfl T.n_isinstance rfl T.n_ValueError bt_VE (hk_ValueError _ hcs)))))))) (dss_one (ds_ret false de_bl)) dss_nil)
    (dss_cons (ds_if false (DW.dt (dw_or (dt_truk (KK := K) (de_isXk (KK := K) (X := (XD P w K mg base ["_law_name", "_law_low", "_law_high", "_law_lap", "_law_due", "e"] "_law_refused" (defScope s__law_refused) (He.ga K "_law_refused") cdv A outer s H E)) (i := 5) (x := "e") (nm := "PaperError") (hec _ hcs) hz hfl rfl (.inl rfl) rfl T.n_isinstance rfl T.g_PaperError (hk_PaperError _ hcs))) (dw_or (dt_truk (KK := K) (de_isXk (KK := K) (X := (XD P w K mg base ["_law_name", "_law_low", "_law_high", "_law_lap", "_law_due", "e"] "_law_refused" (defScope s__law_refused) (He.ga K "_law_refused") cdv A outer s H E)) (i := 5) (x := "e") (nm := "LiveError") (hec _ hcs) hz hfl rfl (.inl rfl) rfl T.n_isinstance rfl T.g_LiveError (hk_LiveError _ hcs))) (dw_or1 (dt_truk (KK := K) (de_isXk (KK := K) (X := (XD P w K mg base ["_law_name", "_law_low", "_law_high", "_law_lap", "_law_due", "e"] "_law_refused" (defScope s__law_refused) (He.ga K "_law_refused") cdv A outer s H E)) (i := 5) (x := "e") (nm := "TextError") (hec _ hcs) hz hfl rfl (.inl rfl) rfl T.n_isinstance rfl T.g_TextError (hk_TextError _ hcs))))))) (dss_one (ds_ret false de_bl)) dss_nil)
    (dss_one (ds_ret false (de_andk (KK := K) (de_isk (KK := K) .str (de_xf (X := (XD P w K mg base ["_law_name", "_law_low", "_law_high", "_law_lap", "_law_due", "e"] "_law_refused" (defScope s__law_refused) (He.ga K "_law_refused") cdv A outer s H E)) (i := 5) (x := "e") (hxf _ hcs) (hno_word _ hcs) hz hfl rfl (.inl rfl)) rfl T.n_isinstance bt_isi rfl T.n_str bt_str) (de_andk (KK := K) (de_cmp (do_eqk (KK := K) hr.units) (de_xf (X := (XD P w K mg base ["_law_name", "_law_low", "_law_high", "_law_lap", "_law_due", "e"] "_law_refused" (defScope s__law_refused) (He.ga K "_law_refused") cdv A outer s H E)) (i := 5) (x := "e") (hxf _ hcs) (hno_word _ hcs) hz hfl rfl (.inl rfl)) (dv 4)) (de_one (de_ownW hw__law_is ⟨rfl, rfl, rfl, rfl, rfl⟩ (L2H.RoomH.mono (k := 6) (j := 2) ⟨hr.dp, hr.un⟩ (by decide)) ⟨_, List.mem_cons_self⟩ rfl (da_cons (de_xf (X := (XD P w K mg base ["_law_name", "_law_low", "_law_high", "_law_lap", "_law_due", "e"] "_law_refused" (defScope s__law_refused) (He.ga K "_law_refused") cdv A outer s H E)) (i := 5) (x := "e") (hxf _ hcs) (hno_at _ hcs) hz hfl rfl (.inl rfl)) (da_cons (de_un du_neg de_int) da_nil))))))))))))
    (dss_one (ds_ret false de_bl))), ?_⟩⟩
  rintro as Q PX hl ⟨nm, a, y, lap, due, rfl, hs, ha, hp⟩
  refine i_seq fun N hN => ?_
  unfold uTryT
  generalize hk : kTryT _ _ _ (csT K) _ _ = kk
  simp [vw_jk, at_0, at_1, at_2, at_3, at_4, ix_40, ix_41, ix_42, ix_43, boolsD_comp, intsD_comp, sh_int, sh_bool, sh_none, sh_str, ev_int, ev_bool, ev_str, ev_none, ev_ni, ev_in, uIfS, evT, ev, uRet, uRetO, uRetN, uDrop, uSet, uSetO, uMove, uFrz, uNext, uBreak, uCont, uApp, uIns, uPut, uPutA, uAug, uRaise, uVar, uC, uOp, uUn, uTru, uTst, uNot, uAnd, uOr, uAndV, uOrV, uNotV, uIf, uNil, uCons, argU, uTup, uLst, allD, onDs, onD, onT, onBool, oI, oIC, oAdd, oEq, oIsN, isN_none, isN_int, isN_bool, isN_str, isN_list, isN_tup, truD, oIx, uSl, uPart, uNoP, oSl, uCB, oLen, oList, oTuple, oInt, oAbs, oAll, oAny, oSum, onB, onI, uIs, uIs2, isT, uCall, uCallP, pick, vw, vw1, okU, okX, nolU, nol, nols, startU, kOf, kQ, kT, onL, uSeqI, uRng1, uRng2, rOk, uEnum, uRep, uTupRev, uYes, ugN, ugT2, wipeU, setU, uIfQ, uRetQ, uSetQ, uPutQ, ixC, uPar, uAsgT, uChain, uCall0, sizeLine_eq, oMax2, oSortI, oStrI, oIsB, szD, List.map_cons, List.map_nil, List.length_cons, List.length_nil, List.replicate, List.cons_append, List.nil_append, List.getElem?_cons_zero, List.getElem?_cons_succ, List.set_cons_zero, List.set_cons_succ, Option.map_some, Option.map_none, List.getD, Option.getD_some, if_true, true_and, and_true, Nat.reduceAdd, Nat.reduceSub, reduceIte, Bool.false_eq_true, Bool.not_true, Bool.not_false]
  refine asked_mono ha (fun _ h => h.elim) ?_
  rintro ex rfl
  subst hk
  refine ⟨T.em, rfl, fun aa dd => ?_⟩
  refine i_seq fun N2 hN2 => ?_
  simp [vw_jk, at_0, at_1, at_2, at_3, at_4, ix_40, ix_41, ix_42, ix_43, boolsD_comp, intsD_comp, sh_int, sh_bool, sh_none, sh_str, ev_int, ev_bool, ev_str, ev_none, ev_ni, ev_in, uIfS, evT, ev, uRet, uRetO, uRetN, uDrop, uSet, uSetO, uMove, uFrz, uNext, uBreak, uCont, uApp, uIns, uPut, uPutA, uAug, uRaise, uVar, uC, uOp, uUn, uTru, uTst, uNot, uAnd, uOr, uAndV, uOrV, uNotV, uIf, uNil, uCons, argU, uTup, uLst, allD, onDs, onD, onT, onBool, oI, oIC, oAdd, oEq, oIsN, isN_none, isN_int, isN_bool, isN_str, isN_list, isN_tup, truD, oIx, uSl, uPart, uNoP, oSl, uCB, oLen, oList, oTuple, oInt, oAbs, oAll, oAny, oSum, onB, onI, uIs, uIs2, isT, uCall, uCallP, pick, vw, vw1, okU, okX, nolU, nol, nols, startU, kOf, kQ, kT, onL, uSeqI, uRng1, uRng2, rOk, uEnum, uRep, uTupRev, uYes, ugN, ugT2, wipeU, setU, uIfQ, uRetQ, uSetQ, uPutQ, ixC, uPar, uAsgT, uChain, uCall0, sizeLine_eq, oMax2, oSortI, oStrI, oIsB, szD, List.map_cons, List.map_nil, List.length_cons, List.length_nil, List.replicate, List.cons_append, List.nil_append, List.getElem?_cons_zero, List.getElem?_cons_succ, List.set_cons_zero, List.set_cons_succ, Option.map_some, Option.map_none, List.getD, Option.getD_some, if_true, true_and, and_true, Nat.reduceAdd, Nat.reduceSub, reduceIte, Bool.false_eq_true, Bool.not_true, Bool.not_false, uIsX, refused]
  rw [hN2]
  refine i_seq fun N3 hN3 => ?_
  simp [vw_jk, at_0, at_1, at_2, at_3, at_4, ix_40, ix_41, ix_42, ix_43, boolsD_comp, intsD_comp, sh_int, sh_bool, sh_none, sh_str, ev_int, ev_bool, ev_str, ev_none, ev_ni, ev_in, uIfS, evT, ev, uRet, uRetO, uRetN, uDrop, uSet, uSetO, uMove, uFrz, uNext, uBreak, uCont, uApp, uIns, uPut, uPutA, uAug, uRaise, uVar, uC, uOp, uUn, uTru, uTst, uNot, uAnd, uOr, uAndV, uOrV, uNotV, uIf, uNil, uCons, argU, uTup, uLst, allD, onDs, onD, onT, onBool, oI, oIC, oAdd, oEq, oIsN, isN_none, isN_int, isN_bool, isN_str, isN_list, isN_tup, truD, oIx, uSl, uPart, uNoP, oSl, uCB, oLen, oList, oTuple, oInt, oAbs, oAll, oAny, oSum, onB, onI, uIs, uIs2, isT, uCall, uCallP, pick, vw, vw1, okU, okX, nolU, nol, nols, startU, kOf, kQ, kT, onL, uSeqI, uRng1, uRng2, rOk, uEnum, uRep, uTupRev, uYes, ugN, ugT2, wipeU, setU, uIfQ, uRetQ, uSetQ, uPutQ, ixC, uPar, uAsgT, uChain, uCall0, sizeLine_eq, oMax2, oSortI, oStrI, oIsB, szD, List.map_cons, List.map_nil, List.length_cons, List.length_nil, List.replicate, List.cons_append, List.nil_append, List.getElem?_cons_zero, List.getElem?_cons_succ, List.set_cons_zero, List.set_cons_succ, Option.map_some, Option.map_none, List.getD, Option.getD_some, if_true, true_and, and_true, Nat.reduceAdd, Nat.reduceSub, reduceIte, Bool.false_eq_true, Bool.not_true, Bool.not_false, uIsX, refused]
  rw [hN3]
  simp [vw_jk, at_0, at_1, at_2, at_3, at_4, ix_40, ix_41, ix_42, ix_43, boolsD_comp, intsD_comp, sh_int, sh_bool, sh_none, sh_str, ev_int, ev_bool, ev_str, ev_none, ev_ni, ev_in, uIfS, evT, ev, uRet, uRetO, uRetN, uDrop, uSet, uSetO, uMove, uFrz, uNext, uBreak, uCont, uApp, uIns, uPut, uPutA, uAug, uRaise, uVar, uC, uOp, uUn, uTru, uTst, uNot, uAnd, uOr, uAndV, uOrV, uNotV, uIf, uNil, uCons, argU, uTup, uLst, allD, onDs, onD, onT, onBool, oI, oIC, oAdd, oEq, oIsN, isN_none, isN_int, isN_bool, isN_str, isN_list, isN_tup, truD, oIx, uSl, uPart, uNoP, oSl, uCB, oLen, oList, oTuple, oInt, oAbs, oAll, oAny, oSum, onB, onI, uIs, uIs2, isT, uCall, uCallP, pick, vw, vw1, okU, okX, nolU, nol, nols, startU, kOf, kQ, kT, onL, uSeqI, uRng1, uRng2, rOk, uEnum, uRep, uTupRev, uYes, ugN, ugT2, wipeU, setU, uIfQ, uRetQ, uSetQ, uPutQ, ixC, uPar, uAsgT, uChain, uCall0, sizeLine_eq, oMax2, oSortI, oStrI, oIsB, szD, List.map_cons, List.map_nil, List.length_cons, List.length_nil, List.replicate, List.cons_append, List.nil_append, List.getElem?_cons_zero, List.getElem?_cons_succ, List.set_cons_zero, List.set_cons_succ, Option.map_some, Option.map_none, List.getD, Option.getD_some, if_true, true_and, and_true, Nat.reduceAdd, Nat.reduceSub, reduceIte, Bool.false_eq_true, Bool.not_true, Bool.not_false, uXf, refused, lk_word, lk_at, hs, is_iff, eqI]
  exact hp
theorem sc__law_odd : FnScope ["_law_pick", "_law_low", "_law_odds"] ["_law_pick", "_law_low"] (defScope s__law_odd) := ⟨rfl, rfl, rfl, by decide +kernel, rfl, by decide +kernel, by decide +kernel⟩
def fn__law_odd : Fn := fun as P _ => ∃ p a : Nat, as = [.d (.int p), .d (.int a)] ∧ 0 < a ∧ a < 2 ^ 400 ∧ ∀ y : D, isNb y = false → (∀ i : Int, y = .int i → i < 0) → P (.d y)
theorem at_mem {α : Type} {l : List α} {i : Int} {z : α} (h : atI l i = some z) : z ∈ l := by
  unfold atI at h
  cases e : ixN l.length i with
  | none => rw [e] at h; cases h
  | some n => rw [e] at h; exact List.mem_of_getElem? h
theorem odd_call {p a : Nat} {P : U → Prop} {PX : Ex → Prop} (h0 : 0 < a) (h1 : a < 2 ^ 400) (h : ∀ y : D, isNb y = false → (∀ i : Int, y = .int i → i < 0) → P (.d y)) : fn__law_odd [.d (.int p), .d (.int a)] P PX := ⟨p, a, rfl, h0, h1, h⟩
section
variable {K : Fr} {P : U → Prop} {PX : Ex → Prop} {a b : Nat} {lap : Int} {y : D}
theorem ask_gcd (h : P (.d (.int (Nat.gcd a b : Nat)))) : fn__law_asked K [.d (.str "gcd"), .d (.int a), .d (.int b), .d (.int lap)] P PX := ⟨_, _, _, _, rfl, .inl ⟨rfl, gcd_call h⟩⟩
theorem lcm_call (ha : a < 2 ^ 400) (hb0 : 1 ≤ b) (hb : b < 2 ^ 400) (h : P (.d (.int (a / Nat.gcd a b * b : Nat)))) : fn_lcm_of K [.d (.int a), .d (.int b)] P PX :=
  ⟨a, _, rfl, ha, fun z => absurd ⟨b, rfl, hb0⟩ z, fun c e _ => by rw [← int_nat e]; exact ⟨hb, h⟩⟩
theorem ask_lcm (ha : a < 2 ^ 400) (hb0 : 1 ≤ b) (hb : b < 2 ^ 400) (h : P (.d (.int (a / Nat.gcd a b * b : Nat)))) : fn__law_asked K [.d (.str "lcm"), .d (.int a), .d (.int b), .d (.int lap)] P PX := ⟨_, _, _, _, rfl, .inr (.inl ⟨rfl, lcm_call ha hb0 hb h⟩)⟩
theorem turns_call (ha0 : 0 < a) (ha : a < 2 ^ 400) (hb : b < a) (h : P (.d (.int (a / Nat.gcd b a : Nat)))) : fn_turns_of K [.d (.int a), .d (.int b)] P PX :=
  ⟨a, _, rfl, ha0, ha, fun z => absurd ⟨b, rfl, hb⟩ z, fun c e _ => by rw [← int_nat e]; exact h⟩
theorem ask_turns (ha0 : 0 < a) (ha : a < 2 ^ 400) (hb : b < a) (h : P (.d (.int (a / Nat.gcd b a : Nat)))) : fn__law_asked K [.d (.str "turns"), .d (.int a), .d (.int b), .d (.int lap)] P PX := ⟨_, _, _, _, rfl, .inr (.inr (.inl ⟨rfl, turns_call ha0 ha hb h⟩))⟩
theorem inverse_call (ha0 : 0 < a) (ha : a < 2 ^ 400) (hb : b < a) (h1 : Nat.gcd b a ≠ 1 → P (.d .none)) (h2 : Nat.gcd b a = 1 → ∀ r : Int, 0 ≤ r → r < a → (r * b) % a = 1 % a → P (.d (.int r))) : fn_inverse_of K [.d (.int a), .d (.int b)] P PX :=
  ⟨a, _, rfl, ha0, ha, fun z => absurd ⟨b, rfl, hb⟩ z, fun c e _ => by rw [← int_nat e]; exact ⟨h1, h2⟩⟩
theorem ask_inverse (ha0 : 0 < a) (ha : a < 2 ^ 400) (hb : b < a) (h1 : Nat.gcd b a ≠ 1 → P (.d .none)) (h2 : Nat.gcd b a = 1 → ∀ r : Int, 0 ≤ r → r < a → (r * b) % a = 1 % a → P (.d (.int r))) : fn__law_asked K [.d (.str "inverse"), .d (.int a), .d (.int b), .d (.int lap)] P PX := ⟨_, _, _, _, rfl, .inr (.inr (.inr (.inl ⟨rfl, inverse_call ha0 ha hb h1 h2⟩)))⟩
theorem strOk_other : PyData.strOk (Str.ofString "other") = true := by decide +kernel
theorem strOk_place : PyData.strOk (Str.ofString "place") = true := by decide +kernel
theorem strOk_prime : PyData.strOk (Str.ofString "prime") = true := by decide +kernel
theorem ref_gcd (hy : isNb y = false) (h : P (.d (.bool true))) : fn__law_refused K [.d (.str "gcd"), .d (.int a), .d y, .d (.int lap), .d (.str "other")] P PX :=
  ⟨_, _, _, _, _, rfl, strOk_other, ⟨_, _, _, _, rfl, .inl ⟨rfl, a, y, rfl, fun _ => rfl, fun b e => by rw [e] at hy; simp [isNb] at hy⟩⟩, h⟩
theorem ref_lcm (ha : a < 2 ^ 400) (hy : ¬ ∃ b : Nat, y = .int b ∧ 1 ≤ b) (h : P (.d (.bool true))) : fn__law_refused K [.d (.str "lcm"), .d (.int a), .d y, .d (.int lap), .d (.str "other")] P PX :=
  ⟨_, _, _, _, _, rfl, strOk_other, ⟨_, _, _, _, rfl, .inr (.inl ⟨rfl, a, y, rfl, ha, fun _ => rfl, fun b e z => absurd ⟨b, e, z⟩ hy⟩)⟩, h⟩
theorem ref_turns (ha0 : 0 < a) (ha : a < 2 ^ 400) (hy : ¬ isPl a y) (h : P (.d (.bool true))) : fn__law_refused K [.d (.str "turns"), .d (.int a), .d y, .d (.int lap), .d (.str "place")] P PX :=
  ⟨_, _, _, _, _, rfl, strOk_place, ⟨_, _, _, _, rfl, .inr (.inr (.inl ⟨rfl, a, y, rfl, ha0, ha, fun _ => rfl, fun b e z => absurd ⟨b, e, z⟩ hy⟩))⟩, h⟩
theorem ref_inverse (ha0 : 0 < a) (ha : a < 2 ^ 400) (hy : ¬ isPl a y) (h : P (.d (.bool true))) : fn__law_refused K [.d (.str "inverse"), .d (.int a), .d y, .d (.int lap), .d (.str "place")] P PX :=
  ⟨_, _, _, _, _, rfl, strOk_place, ⟨_, _, _, _, rfl, .inr (.inr (.inr (.inl ⟨rfl, a, y, rfl, ha0, ha, fun _ => rfl, fun b e z => absurd ⟨b, e, z⟩ hy⟩)))⟩, h⟩
end
theorem no_b1 {y : D} (h : isNb y = false) : ¬ ∃ b : Nat, y = .int b ∧ 1 ≤ b := fun ⟨b, e, _⟩ => by rw [e] at h; simp [isNb] at h
theorem no_pl {y : D} {w : Nat} (h : isNb y = false) : ¬ isPl w y := fun ⟨b, e, _⟩ => by rw [e] at h; simp [isNb] at h
theorem has__law_odd (T : Tk P K mg) : ∃ fd, Has P w K mg base 1 "_law_odd" s__law_odd ["_law_pick", "_law_low"] fn__law_odd fd := by
  obtain ⟨fd, F⟩ := T.f__law_odd
  have hb := F.binds (ps := ["_law_pick", "_law_low"]) fun _ _ _ _ _ _ us hl => match us, hl with | [_, _], _ => rfl
  refine ⟨fd, T.g__law_odd, F.kp, F, hb, fnD F sc__law_odd (by decide) fun cdv A outer s H E hr => ⟨_, _, (dss_cons (ds_set false 2 (de_lst (da_cons (de_un du_neg de_int) (da_cons de_bl (da_cons de_non (da_cons (de_callTy dc_strI (by rfl) T.n_str bt_str (da_cons (dv 1) da_nil)) (da_cons (de_lst (da_cons de_int da_nil)) (da_cons (de_tup (da_cons de_int da_nil)) (da_cons de_str (da_cons de_bl (da_cons (de_un du_neg (dv 1)) (da_cons (de_tup da_nil) (da_cons (de_lst da_nil) (da_cons de_str (da_cons (de_op do_sub de_int (de_op do_pow de_int de_int)) da_nil)))))))))))))) sc__law_odd.nd)
    (dss_one (ds_ret false (de_ixk (KK := K) (dv 2) (de_op do_mod (de_callTy dc_int (by rfl) T.n_int bt_int (da_cons (dv 0) da_nil)) (de_callB (dc_lenk (KK := K)) (by rfl) T.n_len bt_len (da_cons (dv 2) da_nil))))))), ?_⟩⟩
  rintro as Q PX hl ⟨p, a, rfl, a0, a1, hp⟩
  refine i_seq fun N hN => ?_
  simp [vw_jk, at_0, at_1, at_2, at_3, at_4, ix_40, ix_41, ix_42, ix_43, boolsD_comp, intsD_comp, sh_int, sh_bool, sh_none, sh_str, ev_int, ev_bool, ev_str, ev_none, ev_ni, ev_in, uIfS, evT, ev, uRet, uRetO, uRetN, uDrop, uSet, uSetO, uMove, uFrz, uNext, uBreak, uCont, uApp, uIns, uPut, uPutA, uAug, uRaise, uVar, uC, uOp, uUn, uTru, uTst, uNot, uAnd, uOr, uAndV, uOrV, uNotV, uIf, uNil, uCons, argU, uTup, uLst, allD, onDs, onD, onT, onBool, oI, oIC, oAdd, oEq, oIsN, isN_none, isN_int, isN_bool, isN_str, isN_list, isN_tup, truD, oIx, uSl, uPart, uNoP, oSl, uCB, oLen, oList, oTuple, oInt, oAbs, oAll, oAny, oSum, onB, onI, uIs, uIs2, isT, uCall, uCallP, pick, vw, vw1, okU, okX, nolU, nol, nols, startU, kOf, kQ, kT, onL, uSeqI, uRng1, uRng2, rOk, uEnum, uRep, uTupRev, uYes, ugN, ugT2, wipeU, setU, uIfQ, uRetQ, uSetQ, uPutQ, ixC, uPar, uAsgT, uChain, uCall0, sizeLine_eq, oMax2, oSortI, oStrI, oIsB, szD, List.map_cons, List.map_nil, List.length_cons, List.length_nil, List.replicate, List.cons_append, List.nil_append, List.getElem?_cons_zero, List.getElem?_cons_succ, List.set_cons_zero, List.set_cons_succ, Option.map_some, Option.map_none, List.getD, Option.getD_some, if_true, true_and, and_true, Nat.reduceAdd, Nat.reduceSub, reduceIte, Bool.false_eq_true, Bool.not_true, Bool.not_false]
  refine ⟨by have := (Nat.log2_lt (show a ≠ 0 by omega)).mpr a1; omega, ?_⟩
  rw [hN]
  simp [vw_jk, at_0, at_1, at_2, at_3, at_4, ix_40, ix_41, ix_42, ix_43, boolsD_comp, intsD_comp, sh_int, sh_bool, sh_none, sh_str, ev_int, ev_bool, ev_str, ev_none, ev_ni, ev_in, uIfS, evT, ev, uRet, uRetO, uRetN, uDrop, uSet, uSetO, uMove, uFrz, uNext, uBreak, uCont, uApp, uIns, uPut, uPutA, uAug, uRaise, uVar, uC, uOp, uUn, uTru, uTst, uNot, uAnd, uOr, uAndV, uOrV, uNotV, uIf, uNil, uCons, argU, uTup, uLst, allD, onDs, onD, onT, onBool, oI, oIC, oAdd, oEq, oIsN, isN_none, isN_int, isN_bool, isN_str, isN_list, isN_tup, truD, oIx, uSl, uPart, uNoP, oSl, uCB, oLen, oList, oTuple, oInt, oAbs, oAll, oAny, oSum, onB, onI, uIs, uIs2, isT, uCall, uCallP, pick, vw, vw1, okU, okX, nolU, nol, nols, startU, kOf, kQ, kT, onL, uSeqI, uRng1, uRng2, rOk, uEnum, uRep, uTupRev, uYes, ugN, ugT2, wipeU, setU, uIfQ, uRetQ, uSetQ, uPutQ, ixC, uPar, uAsgT, uChain, uCall0, sizeLine_eq, oMax2, oSortI, oStrI, oIsB, szD, List.map_cons, List.map_nil, List.length_cons, List.length_nil, List.replicate, List.cons_append, List.nil_append, List.getElem?_cons_zero, List.getElem?_cons_succ, List.set_cons_zero, List.set_cons_succ, Option.map_some, Option.map_none, List.getD, Option.getD_some, if_true, true_and, and_true, Nat.reduceAdd, Nat.reduceSub, reduceIte, Bool.false_eq_true, Bool.not_true, Bool.not_false]
  refine ⟨powS (by decide) (by decide) (by decide), ?_⟩
  have hp13 : ((p : Int) % 13) < 13 := Int.emod_lt_of_pos _ (by decide)
  have hp0 : 0 ≤ ((p : Int) % 13) := Int.emod_nonneg _ (by decide)
  generalize (p : Int) % 13 = j at *
  split
  · next z hz =>
    have hm := at_mem hz
    have hh : isNb z = false ∧ ∀ i : Int, z = .int i → i < 0 := by
      simp at hm
      rcases hm with rfl | rfl | rfl | rfl | rfl | rfl | rfl | rfl | rfl | rfl | rfl | rfl | rfl <;> refine ⟨?_, fun i hi => ?_⟩ <;> first | rfl | (cases hi; omega) | (simp [isNb]; omega) | cases hi
    exact hp z hh.1 hh.2
  · next hz =>
    obtain ⟨x, h1, _⟩ := at_nn (l := [PyData.int (-1), PyData.bool true, PyData.none, PyData.str (Str.ofString (↑a : Int).repr), PyData.list [PyData.int 1], PyData.tuple [PyData.int 1], PyData.str (Str.ofString ""), PyData.bool false,
          PyData.int (-↑a), PyData.tuple [], PyData.list [], PyData.str (Str.ofString "1"), PyData.int (-100000000000000000000000000000000000000000000000000)]) (i := j) hp0 (by simpa using hp13)
    rw [hz] at h1; cases h1
theorem sc__law_pairs : FnScope ["_law_src", "_law_lap", "_law_share", "_law_low", "_law_times", "_law_high", "_law_first", "_law_second", "_law_odd_here", "_law_name", "_law_due"] ["_law_src", "_law_lap"] (defScope s__law_pairs) := ⟨rfl, rfl, rfl, by decide +kernel, rfl, by decide +kernel, by decide +kernel⟩
def fn__law_pairs (K : Fr) : Fn := fun as P _ => ∃ lap : Int, as = [.hold HVk, .d (.int lap)] ∧ P (.d (.bool true))
structure Prs (sh lo t hi f g : Nat) : Prop where
  s0 : 0 < sh
  l0 : 0 < lo
  hh : hi = lo * t + 1
  gc : Nat.gcd f g = sh
  lc : f / sh * g = sh * lo * hi
  f0 : 0 < f
  g0 : 0 < g
theorem prs {sh lo t : Nat} (s0 : 0 < sh) (l0 : 0 < lo) : Prs sh lo t (lo * t + 1) (sh * lo) (sh * (lo * t + 1)) ∧ Prs sh lo t (lo * t + 1) (sh * (lo * t + 1)) (sh * lo) := by
  refine ⟨⟨s0, l0, rfl, ?_, ?_, Nat.mul_pos s0 l0, Nat.mul_pos s0 (by omega)⟩, ⟨s0, l0, rfl, ?_, ?_, Nat.mul_pos s0 (by omega), Nat.mul_pos s0 l0⟩⟩
  · rw [Nat.gcd_mul_left, gcd_next, Nat.mul_one]
  · rw [Nat.mul_div_cancel_left lo s0, Nat.mul_left_comm, Nat.mul_assoc]
  · rw [Nat.gcd_mul_left, Nat.gcd_comm, gcd_next, Nat.mul_one]
  · rw [Nat.mul_div_cancel_left _ s0, Nat.mul_comm]
theorem has__law_pairs (T : Tk P K mg) {fd__law_great : FuncData} (h__law_great : Has P w K mg base 2 "_law_great" s__law_great ["_law_src", "_law_figures"] fn__law_great fd__law_great) {fd__law_odd : FuncData} (h__law_odd : Has P w K mg base 1 "_law_odd" s__law_odd ["_law_pick", "_law_low"] fn__law_odd fd__law_odd) {fd__law_draw : FuncData} (h__law_draw : Has P w K mg base 1 "_law_draw" s__law_draw ["_law_src", "_law_width"] fn__law_draw fd__law_draw) {fd__law_is : FuncData} (h__law_is : Has P w K mg base 2 "_law_is" s__law_is ["_law_got", "_law_due"] fn__law_is fd__law_is) {fd__law_refused : FuncData} (h__law_refused : Has P w K mg base 7 "_law_refused" s__law_refused ["_law_name", "_law_low", "_law_high", "_law_lap", "_law_due"] (fn__law_refused K) fd__law_refused) {fd__law_asked : FuncData} (h__law_asked : Has P w K mg base 6 "_law_asked" s__law_asked ["_law_name", "_law_low", "_law_high", "_law_lap"] (fn__law_asked K) fd__law_asked) {fd_turns_of : FuncData} (h_turns_of : Has P w K mg base 5 "turns_of" s_turns_of ["wheel", "place"] (fn_turns_of K) fd_turns_of) {fd_gcd_of : FuncData} (h_gcd_of : Has P w K mg base 4 "gcd_of" s_gcd_of ["many", "other"] (fn_gcd_of K) fd_gcd_of) {fd_lcm_of : FuncData} (h_lcm_of : Has P w K mg base 5 "lcm_of" s_lcm_of ["many", "other"] (fn_lcm_of K) fd_lcm_of) : ∃ fd, Has P w K mg base 8 "_law_pairs" s__law_pairs ["_law_src", "_law_lap"] (fn__law_pairs K) fd := by
  obtain ⟨fd, F⟩ := T.f__law_pairs
  have hb := F.binds (ps := ["_law_src", "_law_lap"]) fun _ _ _ _ _ _ us hl => match us, hl with | [_, _], _ => rfl
  refine ⟨fd, T.g__law_pairs, F.kp, F, hb, fnD F sc__law_pairs (by decide) fun cdv A outer s H E hr => ⟨_, _, (dss_cons (ds_set false 2 (de_op (do_addk (KK := K)) de_int (de_own h__law_great ⟨rfl, rfl, rfl, rfl, rfl⟩ (hr.mono (by decide)) rfl airD (da_cons (dv 0) (da_cons de_int da_nil)))) sc__law_pairs.nd)
    (dss_cons (ds_if false (dt_cmp (do_eqk (KK := K) hr.units) (de_own h__law_draw ⟨rfl, rfl, rfl, rfl, rfl⟩ (hr.mono (by decide)) rfl airD (da_cons (dv 0) (da_cons de_int da_nil))) de_int) (dss_one (ds_set false 2 (de_op (do_addk (KK := K)) de_int (de_own h__law_draw ⟨rfl, rfl, rfl, rfl, rfl⟩ (hr.mono (by decide)) rfl airD (da_cons (dv 0) (da_cons de_int da_nil)))) sc__law_pairs.nd)) dss_nil)
    (dss_cons (ds_set false 3 (de_op (do_addk (KK := K)) de_int (de_own h__law_great ⟨rfl, rfl, rfl, rfl, rfl⟩ (hr.mono (by decide)) rfl airD (da_cons (dv 0) (da_cons de_int da_nil)))) sc__law_pairs.nd)
    (dss_cons (ds_if false (dt_cmp (do_eqk (KK := K) hr.units) (de_own h__law_draw ⟨rfl, rfl, rfl, rfl, rfl⟩ (hr.mono (by decide)) rfl airD (da_cons (dv 0) (da_cons de_int da_nil))) de_int) (dss_one (ds_set false 3 (de_op (do_addk (KK := K)) de_int (de_own h__law_draw ⟨rfl, rfl, rfl, rfl, rfl⟩ (hr.mono (by decide)) rfl airD (da_cons (dv 0) (da_cons de_int da_nil)))) sc__law_pairs.nd)) dss_nil)
    (dss_cons (ds_set false 4 (de_own h__law_great ⟨rfl, rfl, rfl, rfl, rfl⟩ (hr.mono (by decide)) rfl airD (da_cons (dv 0) (da_cons de_int da_nil))) sc__law_pairs.nd)
    (dss_cons (ds_if false (dt_cmp (do_eqk (KK := K) hr.units) (de_own h__law_draw ⟨rfl, rfl, rfl, rfl, rfl⟩ (hr.mono (by decide)) rfl airD (da_cons (dv 0) (da_cons de_int da_nil))) de_int) (dss_one (ds_set false 4 (de_own h__law_draw ⟨rfl, rfl, rfl, rfl, rfl⟩ (hr.mono (by decide)) rfl airD (da_cons (dv 0) (da_cons de_int da_nil))) sc__law_pairs.nd)) dss_nil)
    (dss_cons (ds_set false 5 (de_op (do_addk (KK := K)) (de_op do_mul (dv 3) (dv 4)) de_int) sc__law_pairs.nd)
    (dss_cons (ds_set false 6 (de_op do_mul (dv 2) (dv 3)) sc__law_pairs.nd)
    (dss_cons (ds_set false 7 (de_op do_mul (dv 2) (dv 5)) sc__law_pairs.nd)
    (dss_cons (ds_if false (dt_cmp (do_eqk (KK := K) hr.units) (de_own h__law_draw ⟨rfl, rfl, rfl, rfl, rfl⟩ (hr.mono (by decide)) rfl airD (da_cons (dv 0) (da_cons de_int da_nil))) de_int) (dss_cons (ds_set false 6 (de_op do_mul (dv 2) (dv 5)) sc__law_pairs.nd)
    (dss_one (ds_set false 7 (de_op do_mul (dv 2) (dv 3)) sc__law_pairs.nd))) dss_nil)
    (dss_cons (ds_if false (dt_not (dt_truk (KK := K) (de_own h__law_is ⟨rfl, rfl, rfl, rfl, rfl⟩ (hr.mono (by decide)) rfl airD (da_cons (de_own h__law_asked ⟨rfl, rfl, rfl, rfl, rfl⟩ (hr.mono (by decide)) rfl airD (da_cons de_str (da_cons (dv 6) (da_cons (dv 7) (da_cons (dv 1) da_nil))))) (da_cons (dv 2) da_nil))))) (dss_one (ds_ret false de_bl)) dss_nil)
    (dss_cons (ds_if false (dt_not (dt_truk (KK := K) (de_own h__law_is ⟨rfl, rfl, rfl, rfl, rfl⟩ (hr.mono (by decide)) rfl airD (da_cons (de_own h__law_asked ⟨rfl, rfl, rfl, rfl, rfl⟩ (hr.mono (by decide)) rfl airD (da_cons de_str (da_cons (dv 6) (da_cons (dv 7) (da_cons (de_op do_sub de_int (dv 1)) da_nil))))) (da_cons (de_op do_mul (de_op do_mul (dv 2) (dv 3)) (dv 5)) da_nil))))) (dss_one (ds_ret false de_bl)) dss_nil)
    (dss_cons (ds_if false (DW.dt (dw_or (dt_not (dt_truk (KK := K) (de_own h__law_is ⟨rfl, rfl, rfl, rfl, rfl⟩ (hr.mono (by decide)) rfl airD (da_cons (de_own h_gcd_of ⟨rfl, rfl, rfl, rfl, rfl⟩ (hr.mono (by decide)) rfl airD (da_cons de_int (da_cons (dv 7) da_nil))) (da_cons (dv 7) da_nil))))) (dw_or1 (dt_not (dt_truk (KK := K) (de_own h__law_is ⟨rfl, rfl, rfl, rfl, rfl⟩ (hr.mono (by decide)) rfl airD (da_cons (de_own h_gcd_of ⟨rfl, rfl, rfl, rfl, rfl⟩ (hr.mono (by decide)) rfl airD (da_cons de_int (da_cons de_int da_nil))) (da_cons de_int da_nil)))))))) (dss_one (ds_ret false de_bl)) dss_nil)
    (dss_cons (ds_if false (DW.dt (dw_or (dt_not (dt_truk (KK := K) (de_own h__law_is ⟨rfl, rfl, rfl, rfl, rfl⟩ (hr.mono (by decide)) rfl airD (da_cons (de_own h_gcd_of ⟨rfl, rfl, rfl, rfl, rfl⟩ (hr.mono (by decide)) rfl airD (da_cons (dv 6) (da_cons de_int da_nil))) (da_cons (dv 6) da_nil))))) (dw_or1 (dt_not (dt_truk (KK := K) (de_own h__law_is ⟨rfl, rfl, rfl, rfl, rfl⟩ (hr.mono (by decide)) rfl airD (da_cons (de_own h_gcd_of ⟨rfl, rfl, rfl, rfl, rfl⟩ (hr.mono (by decide)) rfl airD (da_cons (dv 6) (da_cons (dv 6) da_nil))) (da_cons (dv 6) da_nil)))))))) (dss_one (ds_ret false de_bl)) dss_nil)
    (dss_cons (ds_if false (DW.dt (dw_or (dt_not (dt_truk (KK := K) (de_own h__law_is ⟨rfl, rfl, rfl, rfl, rfl⟩ (hr.mono (by decide)) rfl airD (da_cons (de_own h_lcm_of ⟨rfl, rfl, rfl, rfl, rfl⟩ (hr.mono (by decide)) rfl airD (da_cons (dv 6) (da_cons de_int da_nil))) (da_cons (dv 6) da_nil))))) (dw_or1 (dt_not (dt_truk (KK := K) (de_own h__law_is ⟨rfl, rfl, rfl, rfl, rfl⟩ (hr.mono (by decide)) rfl airD (da_cons (de_own h_lcm_of ⟨rfl, rfl, rfl, rfl, rfl⟩ (hr.mono (by decide)) rfl airD (da_cons (dv 6) (da_cons (dv 6) da_nil))) (da_cons (dv 6) da_nil)))))))) (dss_one (ds_ret false de_bl)) dss_nil)
    (dss_cons (ds_if false (DW.dt (dw_and (dt_cmp do_gt (dv 4) de_int) (dw_and1 (dt_not (dt_truk (KK := K) (de_own h__law_is ⟨rfl, rfl, rfl, rfl, rfl⟩ (hr.mono (by decide)) rfl airD (da_cons (de_own h__law_asked ⟨rfl, rfl, rfl, rfl, rfl⟩ (hr.mono (by decide)) rfl airD (da_cons de_str (da_cons (de_op do_mul (dv 2) (dv 5)) (da_cons (de_op do_mul (dv 2) (dv 3)) (da_cons (dv 1) da_nil))))) (da_cons (dv 5) da_nil)))))))) (dss_one (ds_ret false de_bl)) dss_nil)
    (dss_cons (ds_if false (dt_not (dt_truk (KK := K) (de_own h__law_is ⟨rfl, rfl, rfl, rfl, rfl⟩ (hr.mono (by decide)) rfl airD (da_cons (de_own h_turns_of ⟨rfl, rfl, rfl, rfl, rfl⟩ (hr.mono (by decide)) rfl airD (da_cons (dv 6) (da_cons de_int da_nil))) (da_cons de_int da_nil))))) (dss_one (ds_ret false de_bl)) dss_nil)
    (dss_cons (ds_if false (DW.dt (dw_and (dt_cmp do_gt (dv 4) de_int) (dw_and1 (dt_not (dt_truk (KK := K) (de_own h__law_is ⟨rfl, rfl, rfl, rfl, rfl⟩ (hr.mono (by decide)) rfl airD (da_cons (de_own h__law_asked ⟨rfl, rfl, rfl, rfl, rfl⟩ (hr.mono (by decide)) rfl airD (da_cons de_str (da_cons (dv 5) (da_cons (dv 3) (da_cons (dv 1) da_nil))))) (da_cons (de_op do_sub (dv 5) (dv 4)) da_nil)))))))) (dss_one (ds_ret false de_bl)) dss_nil)
    (dss_cons (ds_if false (DW.dt (dw_and (dt_cmp do_gt (dv 4) de_int) (dw_and (dt_cmp do_gt (dv 2) de_int) (dw_and1 (dt_cmp do_notN (de_own h__law_asked ⟨rfl, rfl, rfl, rfl, rfl⟩ (hr.mono (by decide)) rfl airD (da_cons de_str (da_cons (de_op do_mul (dv 2) (dv 5)) (da_cons (de_op do_mul (dv 2) (dv 3)) (da_cons (de_op do_sub de_int (dv 1)) da_nil))))) de_non))))) (dss_one (ds_ret false de_bl)) dss_nil)
    (dss_cons (ds_set false 8 (de_own h__law_odd ⟨rfl, rfl, rfl, rfl, rfl⟩ (hr.mono (by decide)) rfl airD (da_cons (de_own h__law_draw ⟨rfl, rfl, rfl, rfl, rfl⟩ (hr.mono (by decide)) rfl airD (da_cons (dv 0) (da_cons de_int da_nil))) (da_cons (dv 6) da_nil))) sc__law_pairs.nd)
    (dss_cons (ds_set false 9 (de_ixk (KK := K) (de_lst (da_cons de_str (da_cons de_str (da_cons de_str (da_cons de_str da_nil))))) (de_own h__law_draw ⟨rfl, rfl, rfl, rfl, rfl⟩ (hr.mono (by decide)) rfl airD (da_cons (dv 0) (da_cons de_int da_nil)))) sc__law_pairs.nd)
    (dss_cons (ds_set false 10 de_str sc__law_pairs.nd)
    (dss_cons (ds_if false (DW.dt (dw_or (dt_cmp (do_eqk (KK := K) hr.units) (dv 9) de_str) (dw_or1 (dt_cmp (do_eqk (KK := K) hr.units) (dv 9) de_str)))) (dss_one (ds_set false 10 de_str sc__law_pairs.nd)) dss_nil)
    (dss_one (ds_ret false (de_andk (KK := K) (de_own h__law_refused ⟨rfl, rfl, rfl, rfl, rfl⟩ (hr.mono (by decide)) rfl airD (da_cons (dv 9) (da_cons (dv 6) (da_cons (dv 8) (da_cons (dv 1) (da_cons (dv 10) da_nil)))))) (de_one (de_own h__law_refused ⟨rfl, rfl, rfl, rfl, rfl⟩ (hr.mono (by decide)) rfl airD (da_cons de_str (da_cons (dv 6) (da_cons de_int (da_cons (dv 1) (da_cons de_str da_nil))))))))))))))))))))))))))))))))), ?_⟩⟩
  rintro as Q PX hl ⟨lap, rfl, hp⟩
  refine i_seq fun N hN => ?_
  simp [vw_jk, at_0, at_1, at_2, at_3, at_4, ix_40, ix_41, ix_42, ix_43, boolsD_comp, intsD_comp, sh_int, sh_bool, sh_none, sh_str, ev_int, ev_bool, ev_str, ev_none, ev_ni, ev_in, uIfS, evT, ev, uRet, uRetO, uRetN, uDrop, uSet, uSetO, uMove, uFrz, uNext, uBreak, uCont, uApp, uIns, uPut, uPutA, uAug, uRaise, uVar, uC, uOp, uUn, uTru, uTst, uNot, uAnd, uOr, uAndV, uOrV, uNotV, uIf, uNil, uCons, argU, uTup, uLst, allD, onDs, onD, onT, onBool, oI, oIC, oAdd, oEq, oIsN, isN_none, isN_int, isN_bool, isN_str, isN_list, isN_tup, truD, oIx, uSl, uPart, uNoP, oSl, uCB, oLen, oList, oTuple, oInt, oAbs, oAll, oAny, oSum, onB, onI, uIs, uIs2, isT, uCall, uCallP, pick, vw, vw1, okU, okX, nolU, nol, nols, startU, kOf, kQ, kT, onL, uSeqI, uRng1, uRng2, rOk, uEnum, uRep, uTupRev, uYes, ugN, ugT2, wipeU, setU, uIfQ, uRetQ, uSetQ, uPutQ, ixC, uPar, uAsgT, uChain, uCall0, sizeLine_eq, oMax2, oSortI, oStrI, oIsB, szD, List.map_cons, List.map_nil, List.length_cons, List.length_nil, List.replicate, List.cons_append, List.nil_append, List.getElem?_cons_zero, List.getElem?_cons_succ, List.set_cons_zero, List.set_cons_succ, Option.map_some, Option.map_none, List.getD, Option.getD_some, if_true, true_and, and_true, Nat.reduceAdd, Nat.reduceSub, reduceIte, Bool.false_eq_true, Bool.not_true, Bool.not_false]
  refine gt 20 rfl (by decide) fun r0 hr0 => ?_
  simp [vw_jk, at_0, at_1, at_2, at_3, at_4, ix_40, ix_41, ix_42, ix_43, boolsD_comp, intsD_comp, sh_int, sh_bool, sh_none, sh_str, ev_int, ev_bool, ev_str, ev_none, ev_ni, ev_in, uIfS, evT, ev, uRet, uRetO, uRetN, uDrop, uSet, uSetO, uMove, uFrz, uNext, uBreak, uCont, uApp, uIns, uPut, uPutA, uAug, uRaise, uVar, uC, uOp, uUn, uTru, uTst, uNot, uAnd, uOr, uAndV, uOrV, uNotV, uIf, uNil, uCons, argU, uTup, uLst, allD, onDs, onD, onT, onBool, oI, oIC, oAdd, oEq, oIsN, isN_none, isN_int, isN_bool, isN_str, isN_list, isN_tup, truD, oIx, uSl, uPart, uNoP, oSl, uCB, oLen, oList, oTuple, oInt, oAbs, oAll, oAny, oSum, onB, onI, uIs, uIs2, isT, uCall, uCallP, pick, vw, vw1, okU, okX, nolU, nol, nols, startU, kOf, kQ, kT, onL, uSeqI, uRng1, uRng2, rOk, uEnum, uRep, uTupRev, uYes, ugN, ugT2, wipeU, setU, uIfQ, uRetQ, uSetQ, uPutQ, ixC, uPar, uAsgT, uChain, uCall0, sizeLine_eq, oMax2, oSortI, oStrI, oIsB, szD, List.map_cons, List.map_nil, List.length_cons, List.length_nil, List.replicate, List.cons_append, List.nil_append, List.getElem?_cons_zero, List.getElem?_cons_succ, List.set_cons_zero, List.set_cons_succ, Option.map_some, Option.map_none, List.getD, Option.getD_some, if_true, true_and, and_true, Nat.reduceAdd, Nat.reduceSub, reduceIte, Bool.false_eq_true, Bool.not_true, Bool.not_false]
  rw [hN]
  refine i_cut (fun s' => ∃ sh : Nat, s' = [some (.hold HVk), some (.d (.int lap)), some (.d (.int sh)), none, none, none, none, none, none, none, none] ∧ 1 ≤ sh ∧ sh ≤ 10 ^ 20) ?_ ?_
  rotate_left
  · intro M hM
    simp [vw_jk, at_0, at_1, at_2, at_3, at_4, ix_40, ix_41, ix_42, ix_43, boolsD_comp, intsD_comp, sh_int, sh_bool, sh_none, sh_str, ev_int, ev_bool, ev_str, ev_none, ev_ni, ev_in, uIfS, evT, ev, uRet, uRetO, uRetN, uDrop, uSet, uSetO, uMove, uFrz, uNext, uBreak, uCont, uApp, uIns, uPut, uPutA, uAug, uRaise, uVar, uC, uOp, uUn, uTru, uTst, uNot, uAnd, uOr, uAndV, uOrV, uNotV, uIf, uNil, uCons, argU, uTup, uLst, allD, onDs, onD, onT, onBool, oI, oIC, oAdd, oEq, oIsN, isN_none, isN_int, isN_bool, isN_str, isN_list, isN_tup, truD, oIx, uSl, uPart, uNoP, oSl, uCB, oLen, oList, oTuple, oInt, oAbs, oAll, oAny, oSum, onB, onI, uIs, uIs2, isT, uCall, uCallP, pick, vw, vw1, okU, okX, nolU, nol, nols, startU, kOf, kQ, kT, onL, uSeqI, uRng1, uRng2, rOk, uEnum, uRep, uTupRev, uYes, ugN, ugT2, wipeU, setU, uIfQ, uRetQ, uSetQ, uPutQ, ixC, uPar, uAsgT, uChain, uCall0, sizeLine_eq, oMax2, oSortI, oStrI, oIsB, szD, List.map_cons, List.map_nil, List.length_cons, List.length_nil, List.replicate, List.cons_append, List.nil_append, List.getElem?_cons_zero, List.getElem?_cons_succ, List.set_cons_zero, List.set_cons_succ, Option.map_some, Option.map_none, List.getD, Option.getD_some, if_true, true_and, and_true, Nat.reduceAdd, Nat.reduceSub, reduceIte, Bool.false_eq_true, Bool.not_true, Bool.not_false]
    refine tkN 4 rfl (by decide) (by decide) fun q hq => ?_
    simp [vw_jk, at_0, at_1, at_2, at_3, at_4, ix_40, ix_41, ix_42, ix_43, boolsD_comp, intsD_comp, sh_int, sh_bool, sh_none, sh_str, ev_int, ev_bool, ev_str, ev_none, ev_ni, ev_in, uIfS, evT, ev, uRet, uRetO, uRetN, uDrop, uSet, uSetO, uMove, uFrz, uNext, uBreak, uCont, uApp, uIns, uPut, uPutA, uAug, uRaise, uVar, uC, uOp, uUn, uTru, uTst, uNot, uAnd, uOr, uAndV, uOrV, uNotV, uIf, uNil, uCons, argU, uTup, uLst, allD, onDs, onD, onT, onBool, oI, oIC, oAdd, oEq, oIsN, isN_none, isN_int, isN_bool, isN_str, isN_list, isN_tup, truD, oIx, uSl, uPart, uNoP, oSl, uCB, oLen, oList, oTuple, oInt, oAbs, oAll, oAny, oSum, onB, onI, uIs, uIs2, isT, uCall, uCallP, pick, vw, vw1, okU, okX, nolU, nol, nols, startU, kOf, kQ, kT, onL, uSeqI, uRng1, uRng2, rOk, uEnum, uRep, uTupRev, uYes, ugN, ugT2, wipeU, setU, uIfQ, uRetQ, uSetQ, uPutQ, ixC, uPar, uAsgT, uChain, uCall0, sizeLine_eq, oMax2, oSortI, oStrI, oIsB, szD, List.map_cons, List.map_nil, List.length_cons, List.length_nil, List.replicate, List.cons_append, List.nil_append, List.getElem?_cons_zero, List.getElem?_cons_succ, List.set_cons_zero, List.set_cons_succ, Option.map_some, Option.map_none, List.getD, Option.getD_some, if_true, true_and, and_true, Nat.reduceAdd, Nat.reduceSub, reduceIte, Bool.false_eq_true, Bool.not_true, Bool.not_false]
    split
    · refine tkN 30 rfl (by decide) (by decide) fun q2 hq2 => ?_
      simp [vw_jk, at_0, at_1, at_2, at_3, at_4, ix_40, ix_41, ix_42, ix_43, boolsD_comp, intsD_comp, sh_int, sh_bool, sh_none, sh_str, ev_int, ev_bool, ev_str, ev_none, ev_ni, ev_in, uIfS, evT, ev, uRet, uRetO, uRetN, uDrop, uSet, uSetO, uMove, uFrz, uNext, uBreak, uCont, uApp, uIns, uPut, uPutA, uAug, uRaise, uVar, uC, uOp, uUn, uTru, uTst, uNot, uAnd, uOr, uAndV, uOrV, uNotV, uIf, uNil, uCons, argU, uTup, uLst, allD, onDs, onD, onT, onBool, oI, oIC, oAdd, oEq, oIsN, isN_none, isN_int, isN_bool, isN_str, isN_list, isN_tup, truD, oIx, uSl, uPart, uNoP, oSl, uCB, oLen, oList, oTuple, oInt, oAbs, oAll, oAny, oSum, onB, onI, uIs, uIs2, isT, uCall, uCallP, pick, vw, vw1, okU, okX, nolU, nol, nols, startU, kOf, kQ, kT, onL, uSeqI, uRng1, uRng2, rOk, uEnum, uRep, uTupRev, uYes, ugN, ugT2, wipeU, setU, uIfQ, uRetQ, uSetQ, uPutQ, ixC, uPar, uAsgT, uChain, uCall0, sizeLine_eq, oMax2, oSortI, oStrI, oIsB, szD, List.map_cons, List.map_nil, List.length_cons, List.length_nil, List.replicate, List.cons_append, List.nil_append, List.getElem?_cons_zero, List.getElem?_cons_succ, List.set_cons_zero, List.set_cons_succ, Option.map_some, Option.map_none, List.getD, Option.getD_some, if_true, true_and, and_true, Nat.reduceAdd, Nat.reduceSub, reduceIte, Bool.false_eq_true, Bool.not_true, Bool.not_false]
      exact hM _ ⟨1 + q2, by simp, by omega, by omega⟩
    · exact hM _ ⟨1 + r0, by simp, by omega, by simp at hr0; omega⟩
  rintro s' ⟨sh, rfl, sh0, sh1⟩
  refine i_seq fun N1 hN1 => ?_
  simp [vw_jk, at_0, at_1, at_2, at_3, at_4, ix_40, ix_41, ix_42, ix_43, boolsD_comp, intsD_comp, sh_int, sh_bool, sh_none, sh_str, ev_int, ev_bool, ev_str, ev_none, ev_ni, ev_in, uIfS, evT, ev, uRet, uRetO, uRetN, uDrop, uSet, uSetO, uMove, uFrz, uNext, uBreak, uCont, uApp, uIns, uPut, uPutA, uAug, uRaise, uVar, uC, uOp, uUn, uTru, uTst, uNot, uAnd, uOr, uAndV, uOrV, uNotV, uIf, uNil, uCons, argU, uTup, uLst, allD, onDs, onD, onT, onBool, oI, oIC, oAdd, oEq, oIsN, isN_none, isN_int, isN_bool, isN_str, isN_list, isN_tup, truD, oIx, uSl, uPart, uNoP, oSl, uCB, oLen, oList, oTuple, oInt, oAbs, oAll, oAny, oSum, onB, onI, uIs, uIs2, isT, uCall, uCallP, pick, vw, vw1, okU, okX, nolU, nol, nols, startU, kOf, kQ, kT, onL, uSeqI, uRng1, uRng2, rOk, uEnum, uRep, uTupRev, uYes, ugN, ugT2, wipeU, setU, uIfQ, uRetQ, uSetQ, uPutQ, ixC, uPar, uAsgT, uChain, uCall0, sizeLine_eq, oMax2, oSortI, oStrI, oIsB, szD, List.map_cons, List.map_nil, List.length_cons, List.length_nil, List.replicate, List.cons_append, List.nil_append, List.getElem?_cons_zero, List.getElem?_cons_succ, List.set_cons_zero, List.set_cons_succ, Option.map_some, Option.map_none, List.getD, Option.getD_some, if_true, true_and, and_true, Nat.reduceAdd, Nat.reduceSub, reduceIte, Bool.false_eq_true, Bool.not_true, Bool.not_false]
  refine gt 15 rfl (by decide) fun r1 hr1 => ?_
  simp [vw_jk, at_0, at_1, at_2, at_3, at_4, ix_40, ix_41, ix_42, ix_43, boolsD_comp, intsD_comp, sh_int, sh_bool, sh_none, sh_str, ev_int, ev_bool, ev_str, ev_none, ev_ni, ev_in, uIfS, evT, ev, uRet, uRetO, uRetN, uDrop, uSet, uSetO, uMove, uFrz, uNext, uBreak, uCont, uApp, uIns, uPut, uPutA, uAug, uRaise, uVar, uC, uOp, uUn, uTru, uTst, uNot, uAnd, uOr, uAndV, uOrV, uNotV, uIf, uNil, uCons, argU, uTup, uLst, allD, onDs, onD, onT, onBool, oI, oIC, oAdd, oEq, oIsN, isN_none, isN_int, isN_bool, isN_str, isN_list, isN_tup, truD, oIx, uSl, uPart, uNoP, oSl, uCB, oLen, oList, oTuple, oInt, oAbs, oAll, oAny, oSum, onB, onI, uIs, uIs2, isT, uCall, uCallP, pick, vw, vw1, okU, okX, nolU, nol, nols, startU, kOf, kQ, kT, onL, uSeqI, uRng1, uRng2, rOk, uEnum, uRep, uTupRev, uYes, ugN, ugT2, wipeU, setU, uIfQ, uRetQ, uSetQ, uPutQ, ixC, uPar, uAsgT, uChain, uCall0, sizeLine_eq, oMax2, oSortI, oStrI, oIsB, szD, List.map_cons, List.map_nil, List.length_cons, List.length_nil, List.replicate, List.cons_append, List.nil_append, List.getElem?_cons_zero, List.getElem?_cons_succ, List.set_cons_zero, List.set_cons_succ, Option.map_some, Option.map_none, List.getD, Option.getD_some, if_true, true_and, and_true, Nat.reduceAdd, Nat.reduceSub, reduceIte, Bool.false_eq_true, Bool.not_true, Bool.not_false]
  rw [hN1]
  refine i_cut (fun s' => ∃ lo : Nat, s' = [some (.hold HVk), some (.d (.int lap)), some (.d (.int sh)), some (.d (.int lo)), none, none, none, none, none, none, none] ∧ 1 ≤ lo ∧ lo ≤ 10 ^ 15) ?_ ?_
  rotate_left
  · intro M hM
    simp [vw_jk, at_0, at_1, at_2, at_3, at_4, ix_40, ix_41, ix_42, ix_43, boolsD_comp, intsD_comp, sh_int, sh_bool, sh_none, sh_str, ev_int, ev_bool, ev_str, ev_none, ev_ni, ev_in, uIfS, evT, ev, uRet, uRetO, uRetN, uDrop, uSet, uSetO, uMove, uFrz, uNext, uBreak, uCont, uApp, uIns, uPut, uPutA, uAug, uRaise, uVar, uC, uOp, uUn, uTru, uTst, uNot, uAnd, uOr, uAndV, uOrV, uNotV, uIf, uNil, uCons, argU, uTup, uLst, allD, onDs, onD, onT, onBool, oI, oIC, oAdd, oEq, oIsN, isN_none, isN_int, isN_bool, isN_str, isN_list, isN_tup, truD, oIx, uSl, uPart, uNoP, oSl, uCB, oLen, oList, oTuple, oInt, oAbs, oAll, oAny, oSum, onB, onI, uIs, uIs2, isT, uCall, uCallP, pick, vw, vw1, okU, okX, nolU, nol, nols, startU, kOf, kQ, kT, onL, uSeqI, uRng1, uRng2, rOk, uEnum, uRep, uTupRev, uYes, ugN, ugT2, wipeU, setU, uIfQ, uRetQ, uSetQ, uPutQ, ixC, uPar, uAsgT, uChain, uCall0, sizeLine_eq, oMax2, oSortI, oStrI, oIsB, szD, List.map_cons, List.map_nil, List.length_cons, List.length_nil, List.replicate, List.cons_append, List.nil_append, List.getElem?_cons_zero, List.getElem?_cons_succ, List.set_cons_zero, List.set_cons_succ, Option.map_some, Option.map_none, List.getD, Option.getD_some, if_true, true_and, and_true, Nat.reduceAdd, Nat.reduceSub, reduceIte, Bool.false_eq_true, Bool.not_true, Bool.not_false]
    refine tkN 4 rfl (by decide) (by decide) fun q hq => ?_
    simp [vw_jk, at_0, at_1, at_2, at_3, at_4, ix_40, ix_41, ix_42, ix_43, boolsD_comp, intsD_comp, sh_int, sh_bool, sh_none, sh_str, ev_int, ev_bool, ev_str, ev_none, ev_ni, ev_in, uIfS, evT, ev, uRet, uRetO, uRetN, uDrop, uSet, uSetO, uMove, uFrz, uNext, uBreak, uCont, uApp, uIns, uPut, uPutA, uAug, uRaise, uVar, uC, uOp, uUn, uTru, uTst, uNot, uAnd, uOr, uAndV, uOrV, uNotV, uIf, uNil, uCons, argU, uTup, uLst, allD, onDs, onD, onT, onBool, oI, oIC, oAdd, oEq, oIsN, isN_none, isN_int, isN_bool, isN_str, isN_list, isN_tup, truD, oIx, uSl, uPart, uNoP, oSl, uCB, oLen, oList, oTuple, oInt, oAbs, oAll, oAny, oSum, onB, onI, uIs, uIs2, isT, uCall, uCallP, pick, vw, vw1, okU, okX, nolU, nol, nols, startU, kOf, kQ, kT, onL, uSeqI, uRng1, uRng2, rOk, uEnum, uRep, uTupRev, uYes, ugN, ugT2, wipeU, setU, uIfQ, uRetQ, uSetQ, uPutQ, ixC, uPar, uAsgT, uChain, uCall0, sizeLine_eq, oMax2, oSortI, oStrI, oIsB, szD, List.map_cons, List.map_nil, List.length_cons, List.length_nil, List.replicate, List.cons_append, List.nil_append, List.getElem?_cons_zero, List.getElem?_cons_succ, List.set_cons_zero, List.set_cons_succ, Option.map_some, Option.map_none, List.getD, Option.getD_some, if_true, true_and, and_true, Nat.reduceAdd, Nat.reduceSub, reduceIte, Bool.false_eq_true, Bool.not_true, Bool.not_false]
    split
    · refine tkN 12 rfl (by decide) (by decide) fun q2 hq2 => ?_
      simp [vw_jk, at_0, at_1, at_2, at_3, at_4, ix_40, ix_41, ix_42, ix_43, boolsD_comp, intsD_comp, sh_int, sh_bool, sh_none, sh_str, ev_int, ev_bool, ev_str, ev_none, ev_ni, ev_in, uIfS, evT, ev, uRet, uRetO, uRetN, uDrop, uSet, uSetO, uMove, uFrz, uNext, uBreak, uCont, uApp, uIns, uPut, uPutA, uAug, uRaise, uVar, uC, uOp, uUn, uTru, uTst, uNot, uAnd, uOr, uAndV, uOrV, uNotV, uIf, uNil, uCons, argU, uTup, uLst, allD, onDs, onD, onT, onBool, oI, oIC, oAdd, oEq, oIsN, isN_none, isN_int, isN_bool, isN_str, isN_list, isN_tup, truD, oIx, uSl, uPart, uNoP, oSl, uCB, oLen, oList, oTuple, oInt, oAbs, oAll, oAny, oSum, onB, onI, uIs, uIs2, isT, uCall, uCallP, pick, vw, vw1, okU, okX, nolU, nol, nols, startU, kOf, kQ, kT, onL, uSeqI, uRng1, uRng2, rOk, uEnum, uRep, uTupRev, uYes, ugN, ugT2, wipeU, setU, uIfQ, uRetQ, uSetQ, uPutQ, ixC, uPar, uAsgT, uChain, uCall0, sizeLine_eq, oMax2, oSortI, oStrI, oIsB, szD, List.map_cons, List.map_nil, List.length_cons, List.length_nil, List.replicate, List.cons_append, List.nil_append, List.getElem?_cons_zero, List.getElem?_cons_succ, List.set_cons_zero, List.set_cons_succ, Option.map_some, Option.map_none, List.getD, Option.getD_some, if_true, true_and, and_true, Nat.reduceAdd, Nat.reduceSub, reduceIte, Bool.false_eq_true, Bool.not_true, Bool.not_false]
      exact hM _ ⟨1 + q2, by simp, by omega, by omega⟩
    · exact hM _ ⟨1 + r1, by simp, by omega, by simp at hr1; omega⟩
  rintro s' ⟨lo, rfl, lo0, lo1⟩
  refine i_seq fun N2 hN2 => ?_
  simp [vw_jk, at_0, at_1, at_2, at_3, at_4, ix_40, ix_41, ix_42, ix_43, boolsD_comp, intsD_comp, sh_int, sh_bool, sh_none, sh_str, ev_int, ev_bool, ev_str, ev_none, ev_ni, ev_in, uIfS, evT, ev, uRet, uRetO, uRetN, uDrop, uSet, uSetO, uMove, uFrz, uNext, uBreak, uCont, uApp, uIns, uPut, uPutA, uAug, uRaise, uVar, uC, uOp, uUn, uTru, uTst, uNot, uAnd, uOr, uAndV, uOrV, uNotV, uIf, uNil, uCons, argU, uTup, uLst, allD, onDs, onD, onT, onBool, oI, oIC, oAdd, oEq, oIsN, isN_none, isN_int, isN_bool, isN_str, isN_list, isN_tup, truD, oIx, uSl, uPart, uNoP, oSl, uCB, oLen, oList, oTuple, oInt, oAbs, oAll, oAny, oSum, onB, onI, uIs, uIs2, isT, uCall, uCallP, pick, vw, vw1, okU, okX, nolU, nol, nols, startU, kOf, kQ, kT, onL, uSeqI, uRng1, uRng2, rOk, uEnum, uRep, uTupRev, uYes, ugN, ugT2, wipeU, setU, uIfQ, uRetQ, uSetQ, uPutQ, ixC, uPar, uAsgT, uChain, uCall0, sizeLine_eq, oMax2, oSortI, oStrI, oIsB, szD, List.map_cons, List.map_nil, List.length_cons, List.length_nil, List.replicate, List.cons_append, List.nil_append, List.getElem?_cons_zero, List.getElem?_cons_succ, List.set_cons_zero, List.set_cons_succ, Option.map_some, Option.map_none, List.getD, Option.getD_some, if_true, true_and, and_true, Nat.reduceAdd, Nat.reduceSub, reduceIte, Bool.false_eq_true, Bool.not_true, Bool.not_false]
  refine gt 15 rfl (by decide) fun r2 hr2 => ?_
  simp [vw_jk, at_0, at_1, at_2, at_3, at_4, ix_40, ix_41, ix_42, ix_43, boolsD_comp, intsD_comp, sh_int, sh_bool, sh_none, sh_str, ev_int, ev_bool, ev_str, ev_none, ev_ni, ev_in, uIfS, evT, ev, uRet, uRetO, uRetN, uDrop, uSet, uSetO, uMove, uFrz, uNext, uBreak, uCont, uApp, uIns, uPut, uPutA, uAug, uRaise, uVar, uC, uOp, uUn, uTru, uTst, uNot, uAnd, uOr, uAndV, uOrV, uNotV, uIf, uNil, uCons, argU, uTup, uLst, allD, onDs, onD, onT, onBool, oI, oIC, oAdd, oEq, oIsN, isN_none, isN_int, isN_bool, isN_str, isN_list, isN_tup, truD, oIx, uSl, uPart, uNoP, oSl, uCB, oLen, oList, oTuple, oInt, oAbs, oAll, oAny, oSum, onB, onI, uIs, uIs2, isT, uCall, uCallP, pick, vw, vw1, okU, okX, nolU, nol, nols, startU, kOf, kQ, kT, onL, uSeqI, uRng1, uRng2, rOk, uEnum, uRep, uTupRev, uYes, ugN, ugT2, wipeU, setU, uIfQ, uRetQ, uSetQ, uPutQ, ixC, uPar, uAsgT, uChain, uCall0, sizeLine_eq, oMax2, oSortI, oStrI, oIsB, szD, List.map_cons, List.map_nil, List.length_cons, List.length_nil, List.replicate, List.cons_append, List.nil_append, List.getElem?_cons_zero, List.getElem?_cons_succ, List.set_cons_zero, List.set_cons_succ, Option.map_some, Option.map_none, List.getD, Option.getD_some, if_true, true_and, and_true, Nat.reduceAdd, Nat.reduceSub, reduceIte, Bool.false_eq_true, Bool.not_true, Bool.not_false]
  rw [hN2]
  refine i_cut (fun s' => ∃ t : Nat, s' = [some (.hold HVk), some (.d (.int lap)), some (.d (.int sh)), some (.d (.int lo)), some (.d (.int t)), none, none, none, none, none, none] ∧ t ≤ 10 ^ 15) ?_ ?_
  rotate_left
  · intro M hM
    simp [vw_jk, at_0, at_1, at_2, at_3, at_4, ix_40, ix_41, ix_42, ix_43, boolsD_comp, intsD_comp, sh_int, sh_bool, sh_none, sh_str, ev_int, ev_bool, ev_str, ev_none, ev_ni, ev_in, uIfS, evT, ev, uRet, uRetO, uRetN, uDrop, uSet, uSetO, uMove, uFrz, uNext, uBreak, uCont, uApp, uIns, uPut, uPutA, uAug, uRaise, uVar, uC, uOp, uUn, uTru, uTst, uNot, uAnd, uOr, uAndV, uOrV, uNotV, uIf, uNil, uCons, argU, uTup, uLst, allD, onDs, onD, onT, onBool, oI, oIC, oAdd, oEq, oIsN, isN_none, isN_int, isN_bool, isN_str, isN_list, isN_tup, truD, oIx, uSl, uPart, uNoP, oSl, uCB, oLen, oList, oTuple, oInt, oAbs, oAll, oAny, oSum, onB, onI, uIs, uIs2, isT, uCall, uCallP, pick, vw, vw1, okU, okX, nolU, nol, nols, startU, kOf, kQ, kT, onL, uSeqI, uRng1, uRng2, rOk, uEnum, uRep, uTupRev, uYes, ugN, ugT2, wipeU, setU, uIfQ, uRetQ, uSetQ, uPutQ, ixC, uPar, uAsgT, uChain, uCall0, sizeLine_eq, oMax2, oSortI, oStrI, oIsB, szD, List.map_cons, List.map_nil, List.length_cons, List.length_nil, List.replicate, List.cons_append, List.nil_append, List.getElem?_cons_zero, List.getElem?_cons_succ, List.set_cons_zero, List.set_cons_succ, Option.map_some, Option.map_none, List.getD, Option.getD_some, if_true, true_and, and_true, Nat.reduceAdd, Nat.reduceSub, reduceIte, Bool.false_eq_true, Bool.not_true, Bool.not_false]
    refine tkN 4 rfl (by decide) (by decide) fun q hq => ?_
    simp [vw_jk, at_0, at_1, at_2, at_3, at_4, ix_40, ix_41, ix_42, ix_43, boolsD_comp, intsD_comp, sh_int, sh_bool, sh_none, sh_str, ev_int, ev_bool, ev_str, ev_none, ev_ni, ev_in, uIfS, evT, ev, uRet, uRetO, uRetN, uDrop, uSet, uSetO, uMove, uFrz, uNext, uBreak, uCont, uApp, uIns, uPut, uPutA, uAug, uRaise, uVar, uC, uOp, uUn, uTru, uTst, uNot, uAnd, uOr, uAndV, uOrV, uNotV, uIf, uNil, uCons, argU, uTup, uLst, allD, onDs, onD, onT, onBool, oI, oIC, oAdd, oEq, oIsN, isN_none, isN_int, isN_bool, isN_str, isN_list, isN_tup, truD, oIx, uSl, uPart, uNoP, oSl, uCB, oLen, oList, oTuple, oInt, oAbs, oAll, oAny, oSum, onB, onI, uIs, uIs2, isT, uCall, uCallP, pick, vw, vw1, okU, okX, nolU, nol, nols, startU, kOf, kQ, kT, onL, uSeqI, uRng1, uRng2, rOk, uEnum, uRep, uTupRev, uYes, ugN, ugT2, wipeU, setU, uIfQ, uRetQ, uSetQ, uPutQ, ixC, uPar, uAsgT, uChain, uCall0, sizeLine_eq, oMax2, oSortI, oStrI, oIsB, szD, List.map_cons, List.map_nil, List.length_cons, List.length_nil, List.replicate, List.cons_append, List.nil_append, List.getElem?_cons_zero, List.getElem?_cons_succ, List.set_cons_zero, List.set_cons_succ, Option.map_some, Option.map_none, List.getD, Option.getD_some, if_true, true_and, and_true, Nat.reduceAdd, Nat.reduceSub, reduceIte, Bool.false_eq_true, Bool.not_true, Bool.not_false]
    split
    · refine tkN 9 rfl (by decide) (by decide) fun q2 hq2 => ?_
      simp [vw_jk, at_0, at_1, at_2, at_3, at_4, ix_40, ix_41, ix_42, ix_43, boolsD_comp, intsD_comp, sh_int, sh_bool, sh_none, sh_str, ev_int, ev_bool, ev_str, ev_none, ev_ni, ev_in, uIfS, evT, ev, uRet, uRetO, uRetN, uDrop, uSet, uSetO, uMove, uFrz, uNext, uBreak, uCont, uApp, uIns, uPut, uPutA, uAug, uRaise, uVar, uC, uOp, uUn, uTru, uTst, uNot, uAnd, uOr, uAndV, uOrV, uNotV, uIf, uNil, uCons, argU, uTup, uLst, allD, onDs, onD, onT, onBool, oI, oIC, oAdd, oEq, oIsN, isN_none, isN_int, isN_bool, isN_str, isN_list, isN_tup, truD, oIx, uSl, uPart, uNoP, oSl, uCB, oLen, oList, oTuple, oInt, oAbs, oAll, oAny, oSum, onB, onI, uIs, uIs2, isT, uCall, uCallP, pick, vw, vw1, okU, okX, nolU, nol, nols, startU, kOf, kQ, kT, onL, uSeqI, uRng1, uRng2, rOk, uEnum, uRep, uTupRev, uYes, ugN, ugT2, wipeU, setU, uIfQ, uRetQ, uSetQ, uPutQ, ixC, uPar, uAsgT, uChain, uCall0, sizeLine_eq, oMax2, oSortI, oStrI, oIsB, szD, List.map_cons, List.map_nil, List.length_cons, List.length_nil, List.replicate, List.cons_append, List.nil_append, List.getElem?_cons_zero, List.getElem?_cons_succ, List.set_cons_zero, List.set_cons_succ, Option.map_some, Option.map_none, List.getD, Option.getD_some, if_true, true_and, and_true, Nat.reduceAdd, Nat.reduceSub, reduceIte, Bool.false_eq_true, Bool.not_true, Bool.not_false]
      exact hM _ ⟨q2, rfl, by omega⟩
    · exact hM _ ⟨r2, rfl, by simp at hr2; omega⟩
  rintro s' ⟨t, rfl, t1⟩
  have hlt : lo * t ≤ 10 ^ 15 * 10 ^ 15 := Nat.mul_le_mul lo1 t1
  have h1 : sh * lo ≤ 10 ^ 20 * 10 ^ 15 := Nat.mul_le_mul sh1 lo1
  have h2 : sh * (lo * t + 1) ≤ 10 ^ 20 * (10 ^ 15 * 10 ^ 15 + 1) := Nat.mul_le_mul sh1 (by omega)
  have c1 : ((lo : Int) * t + 1) = ((lo * t + 1 : Nat) : Int) := by simp
  refine i_seq fun N3 hN3 => ?_
  simp [vw_jk, at_0, at_1, at_2, at_3, at_4, ix_40, ix_41, ix_42, ix_43, boolsD_comp, intsD_comp, sh_int, sh_bool, sh_none, sh_str, ev_int, ev_bool, ev_str, ev_none, ev_ni, ev_in, uIfS, evT, ev, uRet, uRetO, uRetN, uDrop, uSet, uSetO, uMove, uFrz, uNext, uBreak, uCont, uApp, uIns, uPut, uPutA, uAug, uRaise, uVar, uC, uOp, uUn, uTru, uTst, uNot, uAnd, uOr, uAndV, uOrV, uNotV, uIf, uNil, uCons, argU, uTup, uLst, allD, onDs, onD, onT, onBool, oI, oIC, oAdd, oEq, oIsN, isN_none, isN_int, isN_bool, isN_str, isN_list, isN_tup, truD, oIx, uSl, uPart, uNoP, oSl, uCB, oLen, oList, oTuple, oInt, oAbs, oAll, oAny, oSum, onB, onI, uIs, uIs2, isT, uCall, uCallP, pick, vw, vw1, okU, okX, nolU, nol, nols, startU, kOf, kQ, kT, onL, uSeqI, uRng1, uRng2, rOk, uEnum, uRep, uTupRev, uYes, ugN, ugT2, wipeU, setU, uIfQ, uRetQ, uSetQ, uPutQ, ixC, uPar, uAsgT, uChain, uCall0, sizeLine_eq, oMax2, oSortI, oStrI, oIsB, szD, List.map_cons, List.map_nil, List.length_cons, List.length_nil, List.replicate, List.cons_append, List.nil_append, List.getElem?_cons_zero, List.getElem?_cons_succ, List.set_cons_zero, List.set_cons_succ, Option.map_some, Option.map_none, List.getD, Option.getD_some, if_true, true_and, and_true, Nat.reduceAdd, Nat.reduceSub, reduceIte, Bool.false_eq_true, Bool.not_true, Bool.not_false]
  rw [c1]
  obtain ⟨p1, p2⟩ := prs (t := t) sh0 lo0
  generalize hhi : lo * t + 1 = hi at *
  have c2 : ((sh : Int) * lo) = ((sh * lo : Nat) : Int) := by simp
  have c3 : ((sh : Int) * hi) = ((sh * hi : Nat) : Int) := by simp
  refine ⟨mulC (by omega) (by omega), ?_⟩
  rw [hN3]
  refine i_seq fun N4 hN4 => ?_
  simp [vw_jk, at_0, at_1, at_2, at_3, at_4, ix_40, ix_41, ix_42, ix_43, boolsD_comp, intsD_comp, sh_int, sh_bool, sh_none, sh_str, ev_int, ev_bool, ev_str, ev_none, ev_ni, ev_in, uIfS, evT, ev, uRet, uRetO, uRetN, uDrop, uSet, uSetO, uMove, uFrz, uNext, uBreak, uCont, uApp, uIns, uPut, uPutA, uAug, uRaise, uVar, uC, uOp, uUn, uTru, uTst, uNot, uAnd, uOr, uAndV, uOrV, uNotV, uIf, uNil, uCons, argU, uTup, uLst, allD, onDs, onD, onT, onBool, oI, oIC, oAdd, oEq, oIsN, isN_none, isN_int, isN_bool, isN_str, isN_list, isN_tup, truD, oIx, uSl, uPart, uNoP, oSl, uCB, oLen, oList, oTuple, oInt, oAbs, oAll, oAny, oSum, onB, onI, uIs, uIs2, isT, uCall, uCallP, pick, vw, vw1, okU, okX, nolU, nol, nols, startU, kOf, kQ, kT, onL, uSeqI, uRng1, uRng2, rOk, uEnum, uRep, uTupRev, uYes, ugN, ugT2, wipeU, setU, uIfQ, uRetQ, uSetQ, uPutQ, ixC, uPar, uAsgT, uChain, uCall0, sizeLine_eq, oMax2, oSortI, oStrI, oIsB, szD, List.map_cons, List.map_nil, List.length_cons, List.length_nil, List.replicate, List.cons_append, List.nil_append, List.getElem?_cons_zero, List.getElem?_cons_succ, List.set_cons_zero, List.set_cons_succ, Option.map_some, Option.map_none, List.getD, Option.getD_some, if_true, true_and, and_true, Nat.reduceAdd, Nat.reduceSub, reduceIte, Bool.false_eq_true, Bool.not_true, Bool.not_false]
  rw [c2]
  refine ⟨mulC (by omega) (by omega), ?_⟩
  rw [hN4]
  refine i_seq fun N5 hN5 => ?_
  simp [vw_jk, at_0, at_1, at_2, at_3, at_4, ix_40, ix_41, ix_42, ix_43, boolsD_comp, intsD_comp, sh_int, sh_bool, sh_none, sh_str, ev_int, ev_bool, ev_str, ev_none, ev_ni, ev_in, uIfS, evT, ev, uRet, uRetO, uRetN, uDrop, uSet, uSetO, uMove, uFrz, uNext, uBreak, uCont, uApp, uIns, uPut, uPutA, uAug, uRaise, uVar, uC, uOp, uUn, uTru, uTst, uNot, uAnd, uOr, uAndV, uOrV, uNotV, uIf, uNil, uCons, argU, uTup, uLst, allD, onDs, onD, onT, onBool, oI, oIC, oAdd, oEq, oIsN, isN_none, isN_int, isN_bool, isN_str, isN_list, isN_tup, truD, oIx, uSl, uPart, uNoP, oSl, uCB, oLen, oList, oTuple, oInt, oAbs, oAll, oAny, oSum, onB, onI, uIs, uIs2, isT, uCall, uCallP, pick, vw, vw1, okU, okX, nolU, nol, nols, startU, kOf, kQ, kT, onL, uSeqI, uRng1, uRng2, rOk, uEnum, uRep, uTupRev, uYes, ugN, ugT2, wipeU, setU, uIfQ, uRetQ, uSetQ, uPutQ, ixC, uPar, uAsgT, uChain, uCall0, sizeLine_eq, oMax2, oSortI, oStrI, oIsB, szD, List.map_cons, List.map_nil, List.length_cons, List.length_nil, List.replicate, List.cons_append, List.nil_append, List.getElem?_cons_zero, List.getElem?_cons_succ, List.set_cons_zero, List.set_cons_succ, Option.map_some, Option.map_none, List.getD, Option.getD_some, if_true, true_and, and_true, Nat.reduceAdd, Nat.reduceSub, reduceIte, Bool.false_eq_true, Bool.not_true, Bool.not_false]
  rw [c3]
  refine ⟨mulC (by omega) (by omega), ?_⟩
  rw [hN5]
  refine i_cut (fun s' => ∃ f g : Nat, s' = [some (.hold HVk), some (.d (.int lap)), some (.d (.int sh)), some (.d (.int lo)), some (.d (.int t)), some (.d (.int hi)), some (.d (.int f)), some (.d (.int g)), none, none, none] ∧ Prs sh lo t hi f g ∧ f < 2 ^ 400 ∧ g < 2 ^ 400) ?_ ?_
  rotate_left
  · intro M hM
    simp [vw_jk, at_0, at_1, at_2, at_3, at_4, ix_40, ix_41, ix_42, ix_43, boolsD_comp, intsD_comp, sh_int, sh_bool, sh_none, sh_str, ev_int, ev_bool, ev_str, ev_none, ev_ni, ev_in, uIfS, evT, ev, uRet, uRetO, uRetN, uDrop, uSet, uSetO, uMove, uFrz, uNext, uBreak, uCont, uApp, uIns, uPut, uPutA, uAug, uRaise, uVar, uC, uOp, uUn, uTru, uTst, uNot, uAnd, uOr, uAndV, uOrV, uNotV, uIf, uNil, uCons, argU, uTup, uLst, allD, onDs, onD, onT, onBool, oI, oIC, oAdd, oEq, oIsN, isN_none, isN_int, isN_bool, isN_str, isN_list, isN_tup, truD, oIx, uSl, uPart, uNoP, oSl, uCB, oLen, oList, oTuple, oInt, oAbs, oAll, oAny, oSum, onB, onI, uIs, uIs2, isT, uCall, uCallP, pick, vw, vw1, okU, okX, nolU, nol, nols, startU, kOf, kQ, kT, onL, uSeqI, uRng1, uRng2, rOk, uEnum, uRep, uTupRev, uYes, ugN, ugT2, wipeU, setU, uIfQ, uRetQ, uSetQ, uPutQ, ixC, uPar, uAsgT, uChain, uCall0, sizeLine_eq, oMax2, oSortI, oStrI, oIsB, szD, List.map_cons, List.map_nil, List.length_cons, List.length_nil, List.replicate, List.cons_append, List.nil_append, List.getElem?_cons_zero, List.getElem?_cons_succ, List.set_cons_zero, List.set_cons_succ, Option.map_some, Option.map_none, List.getD, Option.getD_some, if_true, true_and, and_true, Nat.reduceAdd, Nat.reduceSub, reduceIte, Bool.false_eq_true, Bool.not_true, Bool.not_false]
    refine tkN 2 rfl (by decide) (by decide) fun q hq => ?_
    simp [uSeq, vw_jk, at_0, at_1, at_2, at_3, at_4, ix_40, ix_41, ix_42, ix_43, boolsD_comp, intsD_comp, sh_int, sh_bool, sh_none, sh_str, ev_int, ev_bool, ev_str, ev_none, ev_ni, ev_in, uIfS, evT, ev, uRet, uRetO, uRetN, uDrop, uSet, uSetO, uMove, uFrz, uNext, uBreak, uCont, uApp, uIns, uPut, uPutA, uAug, uRaise, uVar, uC, uOp, uUn, uTru, uTst, uNot, uAnd, uOr, uAndV, uOrV, uNotV, uIf, uNil, uCons, argU, uTup, uLst, allD, onDs, onD, onT, onBool, oI, oIC, oAdd, oEq, oIsN, isN_none, isN_int, isN_bool, isN_str, isN_list, isN_tup, truD, oIx, uSl, uPart, uNoP, oSl, uCB, oLen, oList, oTuple, oInt, oAbs, oAll, oAny, oSum, onB, onI, uIs, uIs2, isT, uCall, uCallP, pick, vw, vw1, okU, okX, nolU, nol, nols, startU, kOf, kQ, kT, onL, uSeqI, uRng1, uRng2, rOk, uEnum, uRep, uTupRev, uYes, ugN, ugT2, wipeU, setU, uIfQ, uRetQ, uSetQ, uPutQ, ixC, uPar, uAsgT, uChain, uCall0, sizeLine_eq, oMax2, oSortI, oStrI, oIsB, szD, List.map_cons, List.map_nil, List.length_cons, List.length_nil, List.replicate, List.cons_append, List.nil_append, List.getElem?_cons_zero, List.getElem?_cons_succ, List.set_cons_zero, List.set_cons_succ, Option.map_some, Option.map_none, List.getD, Option.getD_some, if_true, true_and, and_true, Nat.reduceAdd, Nat.reduceSub, reduceIte, Bool.false_eq_true, Bool.not_true, Bool.not_false]
    rw [c2, c3]
    split
    · exact ⟨mulC (by omega) (by omega), mulC (by omega) (by omega), hM _ ⟨_, _, rfl, p2, by omega, by omega⟩⟩
    · exact hM _ ⟨_, _, rfl, p1, by omega, by omega⟩
  rintro s' ⟨f, g, rfl, pr, hf, hg⟩
  have g1 := pr.gc
  have g2 := pr.lc
  have hs400 : sh < 2 ^ 400 := by omega
  have e1 : (((sh : Int) * lo) * hi) = ((sh * lo * hi : Nat) : Int) := by simp
  have e2 : ((sh : Int) * lo) = ((sh * lo : Nat) : Int) := by simp
  have e3 : ((sh : Int) * hi) = ((sh * hi : Nat) : Int) := by simp
  have g0 := pr.g0
  have f0 := pr.f0
  have hhi0 : 0 < hi := by have := pr.hh; omega
  -- gcd
  refine i_seq fun N6 hN6 => ?_
  simp [vw_jk, at_0, at_1, at_2, at_3, at_4, ix_40, ix_41, ix_42, ix_43, boolsD_comp, intsD_comp, sh_int, sh_bool, sh_none, sh_str, ev_int, ev_bool, ev_str, ev_none, ev_ni, ev_in, uIfS, evT, ev, uRet, uRetO, uRetN, uDrop, uSet, uSetO, uMove, uFrz, uNext, uBreak, uCont, uApp, uIns, uPut, uPutA, uAug, uRaise, uVar, uC, uOp, uUn, uTru, uTst, uNot, uAnd, uOr, uAndV, uOrV, uNotV, uIf, uNil, uCons, argU, uTup, uLst, allD, onDs, onD, onT, onBool, oI, oIC, oAdd, oEq, oIsN, isN_none, isN_int, isN_bool, isN_str, isN_list, isN_tup, truD, oIx, uSl, uPart, uNoP, oSl, uCB, oLen, oList, oTuple, oInt, oAbs, oAll, oAny, oSum, onB, onI, uIs, uIs2, isT, uCall, uCallP, pick, vw, vw1, okU, okX, nolU, nol, nols, startU, kOf, kQ, kT, onL, uSeqI, uRng1, uRng2, rOk, uEnum, uRep, uTupRev, uYes, ugN, ugT2, wipeU, setU, uIfQ, uRetQ, uSetQ, uPutQ, ixC, uPar, uAsgT, uChain, uCall0, sizeLine_eq, oMax2, oSortI, oStrI, oIsB, szD, List.map_cons, List.map_nil, List.length_cons, List.length_nil, List.replicate, List.cons_append, List.nil_append, List.getElem?_cons_zero, List.getElem?_cons_succ, List.set_cons_zero, List.set_cons_succ, Option.map_some, Option.map_none, List.getD, Option.getD_some, if_true, true_and, and_true, Nat.reduceAdd, Nat.reduceSub, reduceIte, Bool.false_eq_true, Bool.not_true, Bool.not_false]
  refine ask_gcd ?_
  rw [g1]
  simp [vw_jk, at_0, at_1, at_2, at_3, at_4, ix_40, ix_41, ix_42, ix_43, boolsD_comp, intsD_comp, sh_int, sh_bool, sh_none, sh_str, ev_int, ev_bool, ev_str, ev_none, ev_ni, ev_in, uIfS, evT, ev, uRet, uRetO, uRetN, uDrop, uSet, uSetO, uMove, uFrz, uNext, uBreak, uCont, uApp, uIns, uPut, uPutA, uAug, uRaise, uVar, uC, uOp, uUn, uTru, uTst, uNot, uAnd, uOr, uAndV, uOrV, uNotV, uIf, uNil, uCons, argU, uTup, uLst, allD, onDs, onD, onT, onBool, oI, oIC, oAdd, oEq, oIsN, isN_none, isN_int, isN_bool, isN_str, isN_list, isN_tup, truD, oIx, uSl, uPart, uNoP, oSl, uCB, oLen, oList, oTuple, oInt, oAbs, oAll, oAny, oSum, onB, onI, uIs, uIs2, isT, uCall, uCallP, pick, vw, vw1, okU, okX, nolU, nol, nols, startU, kOf, kQ, kT, onL, uSeqI, uRng1, uRng2, rOk, uEnum, uRep, uTupRev, uYes, ugN, ugT2, wipeU, setU, uIfQ, uRetQ, uSetQ, uPutQ, ixC, uPar, uAsgT, uChain, uCall0, sizeLine_eq, oMax2, oSortI, oStrI, oIsB, szD, List.map_cons, List.map_nil, List.length_cons, List.length_nil, List.replicate, List.cons_append, List.nil_append, List.getElem?_cons_zero, List.getElem?_cons_succ, List.set_cons_zero, List.set_cons_succ, Option.map_some, Option.map_none, List.getD, Option.getD_some, if_true, true_and, and_true, Nat.reduceAdd, Nat.reduceSub, reduceIte, Bool.false_eq_true, Bool.not_true, Bool.not_false, is_iff, eqI_self]
  rw [hN6]
  -- lcm
  refine i_seq fun N7 hN7 => ?_
  simp [vw_jk, at_0, at_1, at_2, at_3, at_4, ix_40, ix_41, ix_42, ix_43, boolsD_comp, intsD_comp, sh_int, sh_bool, sh_none, sh_str, ev_int, ev_bool, ev_str, ev_none, ev_ni, ev_in, uIfS, evT, ev, uRet, uRetO, uRetN, uDrop, uSet, uSetO, uMove, uFrz, uNext, uBreak, uCont, uApp, uIns, uPut, uPutA, uAug, uRaise, uVar, uC, uOp, uUn, uTru, uTst, uNot, uAnd, uOr, uAndV, uOrV, uNotV, uIf, uNil, uCons, argU, uTup, uLst, allD, onDs, onD, onT, onBool, oI, oIC, oAdd, oEq, oIsN, isN_none, isN_int, isN_bool, isN_str, isN_list, isN_tup, truD, oIx, uSl, uPart, uNoP, oSl, uCB, oLen, oList, oTuple, oInt, oAbs, oAll, oAny, oSum, onB, onI, uIs, uIs2, isT, uCall, uCallP, pick, vw, vw1, okU, okX, nolU, nol, nols, startU, kOf, kQ, kT, onL, uSeqI, uRng1, uRng2, rOk, uEnum, uRep, uTupRev, uYes, ugN, ugT2, wipeU, setU, uIfQ, uRetQ, uSetQ, uPutQ, ixC, uPar, uAsgT, uChain, uCall0, sizeLine_eq, oMax2, oSortI, oStrI, oIsB, szD, List.map_cons, List.map_nil, List.length_cons, List.length_nil, List.replicate, List.cons_append, List.nil_append, List.getElem?_cons_zero, List.getElem?_cons_succ, List.set_cons_zero, List.set_cons_succ, Option.map_some, Option.map_none, List.getD, Option.getD_some, if_true, true_and, and_true, Nat.reduceAdd, Nat.reduceSub, reduceIte, Bool.false_eq_true, Bool.not_true, Bool.not_false]
  refine ask_lcm hf g0 hg ?_
  rw [g1, g2]
  simp only [vw_jk, at_0, at_1, at_2, at_3, at_4, ix_40, ix_41, ix_42, ix_43, boolsD_comp, intsD_comp, sh_int, sh_bool, sh_none, sh_str, ev_int, ev_bool, ev_str, ev_none, ev_ni, ev_in, uIfS, evT, ev, uRet, uRetO, uRetN, uDrop, uSet, uSetO, uMove, uFrz, uNext, uBreak, uCont, uApp, uIns, uPut, uPutA, uAug, uRaise, uVar, uC, uOp, uUn, uTru, uTst, uNot, uAnd, uOr, uAndV, uOrV, uNotV, uIf, uNil, uCons, argU, uTup, uLst, allD, onDs, onD, onT, onBool, oI, oIC, oAdd, oEq, oIsN, isN_none, isN_int, isN_bool, isN_str, isN_list, isN_tup, truD, oIx, uSl, uPart, uNoP, oSl, uCB, oLen, oList, oTuple, oInt, oAbs, oAll, oAny, oSum, onB, onI, uIs, uIs2, isT, uCall, uCallP, pick, vw, vw1, okU, okX, nolU, nol, nols, startU, kOf, kQ, kT, onL, uSeqI, uRng1, uRng2, rOk, uEnum, uRep, uTupRev, uYes, ugN, ugT2, wipeU, setU, uIfQ, uRetQ, uSetQ, uPutQ, ixC, uPar, uAsgT, uChain, uCall0, sizeLine_eq, oMax2, oSortI, oStrI, oIsB, szD, List.map_cons, List.map_nil, List.length_cons, List.length_nil, List.replicate, List.cons_append, List.nil_append, List.getElem?_cons_zero, List.getElem?_cons_succ, List.set_cons_zero, List.set_cons_succ, Option.map_some, Option.map_none, List.getD, Option.getD_some, if_true, true_and, and_true, Nat.reduceAdd, Nat.reduceSub, reduceIte, Bool.false_eq_true, Bool.not_true, Bool.not_false]
  rw [e2, ← Int.natCast_mul]
  simp [vw_jk, at_0, at_1, at_2, at_3, at_4, ix_40, ix_41, ix_42, ix_43, boolsD_comp, intsD_comp, sh_int, sh_bool, sh_none, sh_str, ev_int, ev_bool, ev_str, ev_none, ev_ni, ev_in, uIfS, evT, ev, uRet, uRetO, uRetN, uDrop, uSet, uSetO, uMove, uFrz, uNext, uBreak, uCont, uApp, uIns, uPut, uPutA, uAug, uRaise, uVar, uC, uOp, uUn, uTru, uTst, uNot, uAnd, uOr, uAndV, uOrV, uNotV, uIf, uNil, uCons, argU, uTup, uLst, allD, onDs, onD, onT, onBool, oI, oIC, oAdd, oEq, oIsN, isN_none, isN_int, isN_bool, isN_str, isN_list, isN_tup, truD, oIx, uSl, uPart, uNoP, oSl, uCB, oLen, oList, oTuple, oInt, oAbs, oAll, oAny, oSum, onB, onI, uIs, uIs2, isT, uCall, uCallP, pick, vw, vw1, okU, okX, nolU, nol, nols, startU, kOf, kQ, kT, onL, uSeqI, uRng1, uRng2, rOk, uEnum, uRep, uTupRev, uYes, ugN, ugT2, wipeU, setU, uIfQ, uRetQ, uSetQ, uPutQ, ixC, uPar, uAsgT, uChain, uCall0, sizeLine_eq, oMax2, oSortI, oStrI, oIsB, szD, List.map_cons, List.map_nil, List.length_cons, List.length_nil, List.replicate, List.cons_append, List.nil_append, List.getElem?_cons_zero, List.getElem?_cons_succ, List.set_cons_zero, List.set_cons_succ, Option.map_some, Option.map_none, List.getD, Option.getD_some, if_true, true_and, and_true, Nat.reduceAdd, Nat.reduceSub, reduceIte, Bool.false_eq_true, Bool.not_true, Bool.not_false, is_iff, eqI_self]
  refine ⟨mulC (by omega) (by omega), by rw [e2]; exact mulC (by omega) (by omega), ?_⟩
  rw [hN7]
  -- gcd with 0
  refine i_seq fun N8 hN8 => ?_
  simp [vw_jk, at_0, at_1, at_2, at_3, at_4, ix_40, ix_41, ix_42, ix_43, boolsD_comp, intsD_comp, sh_int, sh_bool, sh_none, sh_str, ev_int, ev_bool, ev_str, ev_none, ev_ni, ev_in, uIfS, evT, ev, uRet, uRetO, uRetN, uDrop, uSet, uSetO, uMove, uFrz, uNext, uBreak, uCont, uApp, uIns, uPut, uPutA, uAug, uRaise, uVar, uC, uOp, uUn, uTru, uTst, uNot, uAnd, uOr, uAndV, uOrV, uNotV, uIf, uNil, uCons, argU, uTup, uLst, allD, onDs, onD, onT, onBool, oI, oIC, oAdd, oEq, oIsN, isN_none, isN_int, isN_bool, isN_str, isN_list, isN_tup, truD, oIx, uSl, uPart, uNoP, oSl, uCB, oLen, oList, oTuple, oInt, oAbs, oAll, oAny, oSum, onB, onI, uIs, uIs2, isT, uCall, uCallP, pick, vw, vw1, okU, okX, nolU, nol, nols, startU, kOf, kQ, kT, onL, uSeqI, uRng1, uRng2, rOk, uEnum, uRep, uTupRev, uYes, ugN, ugT2, wipeU, setU, uIfQ, uRetQ, uSetQ, uPutQ, ixC, uPar, uAsgT, uChain, uCall0, sizeLine_eq, oMax2, oSortI, oStrI, oIsB, szD, List.map_cons, List.map_nil, List.length_cons, List.length_nil, List.replicate, List.cons_append, List.nil_append, List.getElem?_cons_zero, List.getElem?_cons_succ, List.set_cons_zero, List.set_cons_succ, Option.map_some, Option.map_none, List.getD, Option.getD_some, if_true, true_and, and_true, Nat.reduceAdd, Nat.reduceSub, reduceIte, Bool.false_eq_true, Bool.not_true, Bool.not_false]
  refine gcd_call (a := 0) (b := g) ?_
  rw [Nat.gcd_zero_left]
  simp [vw_jk, at_0, at_1, at_2, at_3, at_4, ix_40, ix_41, ix_42, ix_43, boolsD_comp, intsD_comp, sh_int, sh_bool, sh_none, sh_str, ev_int, ev_bool, ev_str, ev_none, ev_ni, ev_in, uIfS, evT, ev, uRet, uRetO, uRetN, uDrop, uSet, uSetO, uMove, uFrz, uNext, uBreak, uCont, uApp, uIns, uPut, uPutA, uAug, uRaise, uVar, uC, uOp, uUn, uTru, uTst, uNot, uAnd, uOr, uAndV, uOrV, uNotV, uIf, uNil, uCons, argU, uTup, uLst, allD, onDs, onD, onT, onBool, oI, oIC, oAdd, oEq, oIsN, isN_none, isN_int, isN_bool, isN_str, isN_list, isN_tup, truD, oIx, uSl, uPart, uNoP, oSl, uCB, oLen, oList, oTuple, oInt, oAbs, oAll, oAny, oSum, onB, onI, uIs, uIs2, isT, uCall, uCallP, pick, vw, vw1, okU, okX, nolU, nol, nols, startU, kOf, kQ, kT, onL, uSeqI, uRng1, uRng2, rOk, uEnum, uRep, uTupRev, uYes, ugN, ugT2, wipeU, setU, uIfQ, uRetQ, uSetQ, uPutQ, ixC, uPar, uAsgT, uChain, uCall0, sizeLine_eq, oMax2, oSortI, oStrI, oIsB, szD, List.map_cons, List.map_nil, List.length_cons, List.length_nil, List.replicate, List.cons_append, List.nil_append, List.getElem?_cons_zero, List.getElem?_cons_succ, List.set_cons_zero, List.set_cons_succ, Option.map_some, Option.map_none, List.getD, Option.getD_some, if_true, true_and, and_true, Nat.reduceAdd, Nat.reduceSub, reduceIte, Bool.false_eq_true, Bool.not_true, Bool.not_false, is_iff, eqI_self]
  refine gcd_call (a := 0) (b := 0) ?_
  rw [Nat.gcd_zero_left]
  simp [vw_jk, at_0, at_1, at_2, at_3, at_4, ix_40, ix_41, ix_42, ix_43, boolsD_comp, intsD_comp, sh_int, sh_bool, sh_none, sh_str, ev_int, ev_bool, ev_str, ev_none, ev_ni, ev_in, uIfS, evT, ev, uRet, uRetO, uRetN, uDrop, uSet, uSetO, uMove, uFrz, uNext, uBreak, uCont, uApp, uIns, uPut, uPutA, uAug, uRaise, uVar, uC, uOp, uUn, uTru, uTst, uNot, uAnd, uOr, uAndV, uOrV, uNotV, uIf, uNil, uCons, argU, uTup, uLst, allD, onDs, onD, onT, onBool, oI, oIC, oAdd, oEq, oIsN, isN_none, isN_int, isN_bool, isN_str, isN_list, isN_tup, truD, oIx, uSl, uPart, uNoP, oSl, uCB, oLen, oList, oTuple, oInt, oAbs, oAll, oAny, oSum, onB, onI, uIs, uIs2, isT, uCall, uCallP, pick, vw, vw1, okU, okX, nolU, nol, nols, startU, kOf, kQ, kT, onL, uSeqI, uRng1, uRng2, rOk, uEnum, uRep, uTupRev, uYes, ugN, ugT2, wipeU, setU, uIfQ, uRetQ, uSetQ, uPutQ, ixC, uPar, uAsgT, uChain, uCall0, sizeLine_eq, oMax2, oSortI, oStrI, oIsB, szD, List.map_cons, List.map_nil, List.length_cons, List.length_nil, List.replicate, List.cons_append, List.nil_append, List.getElem?_cons_zero, List.getElem?_cons_succ, List.set_cons_zero, List.set_cons_succ, Option.map_some, Option.map_none, List.getD, Option.getD_some, if_true, true_and, and_true, Nat.reduceAdd, Nat.reduceSub, reduceIte, Bool.false_eq_true, Bool.not_true, Bool.not_false, is_iff, eqI]
  rw [hN8]
  refine i_seq fun N9 hN9 => ?_
  simp [vw_jk, at_0, at_1, at_2, at_3, at_4, ix_40, ix_41, ix_42, ix_43, boolsD_comp, intsD_comp, sh_int, sh_bool, sh_none, sh_str, ev_int, ev_bool, ev_str, ev_none, ev_ni, ev_in, uIfS, evT, ev, uRet, uRetO, uRetN, uDrop, uSet, uSetO, uMove, uFrz, uNext, uBreak, uCont, uApp, uIns, uPut, uPutA, uAug, uRaise, uVar, uC, uOp, uUn, uTru, uTst, uNot, uAnd, uOr, uAndV, uOrV, uNotV, uIf, uNil, uCons, argU, uTup, uLst, allD, onDs, onD, onT, onBool, oI, oIC, oAdd, oEq, oIsN, isN_none, isN_int, isN_bool, isN_str, isN_list, isN_tup, truD, oIx, uSl, uPart, uNoP, oSl, uCB, oLen, oList, oTuple, oInt, oAbs, oAll, oAny, oSum, onB, onI, uIs, uIs2, isT, uCall, uCallP, pick, vw, vw1, okU, okX, nolU, nol, nols, startU, kOf, kQ, kT, onL, uSeqI, uRng1, uRng2, rOk, uEnum, uRep, uTupRev, uYes, ugN, ugT2, wipeU, setU, uIfQ, uRetQ, uSetQ, uPutQ, ixC, uPar, uAsgT, uChain, uCall0, sizeLine_eq, oMax2, oSortI, oStrI, oIsB, szD, List.map_cons, List.map_nil, List.length_cons, List.length_nil, List.replicate, List.cons_append, List.nil_append, List.getElem?_cons_zero, List.getElem?_cons_succ, List.set_cons_zero, List.set_cons_succ, Option.map_some, Option.map_none, List.getD, Option.getD_some, if_true, true_and, and_true, Nat.reduceAdd, Nat.reduceSub, reduceIte, Bool.false_eq_true, Bool.not_true, Bool.not_false]
  refine gcd_call (a := f) (b := 0) ?_
  rw [Nat.gcd_zero_right]
  simp [vw_jk, at_0, at_1, at_2, at_3, at_4, ix_40, ix_41, ix_42, ix_43, boolsD_comp, intsD_comp, sh_int, sh_bool, sh_none, sh_str, ev_int, ev_bool, ev_str, ev_none, ev_ni, ev_in, uIfS, evT, ev, uRet, uRetO, uRetN, uDrop, uSet, uSetO, uMove, uFrz, uNext, uBreak, uCont, uApp, uIns, uPut, uPutA, uAug, uRaise, uVar, uC, uOp, uUn, uTru, uTst, uNot, uAnd, uOr, uAndV, uOrV, uNotV, uIf, uNil, uCons, argU, uTup, uLst, allD, onDs, onD, onT, onBool, oI, oIC, oAdd, oEq, oIsN, isN_none, isN_int, isN_bool, isN_str, isN_list, isN_tup, truD, oIx, uSl, uPart, uNoP, oSl, uCB, oLen, oList, oTuple, oInt, oAbs, oAll, oAny, oSum, onB, onI, uIs, uIs2, isT, uCall, uCallP, pick, vw, vw1, okU, okX, nolU, nol, nols, startU, kOf, kQ, kT, onL, uSeqI, uRng1, uRng2, rOk, uEnum, uRep, uTupRev, uYes, ugN, ugT2, wipeU, setU, uIfQ, uRetQ, uSetQ, uPutQ, ixC, uPar, uAsgT, uChain, uCall0, sizeLine_eq, oMax2, oSortI, oStrI, oIsB, szD, List.map_cons, List.map_nil, List.length_cons, List.length_nil, List.replicate, List.cons_append, List.nil_append, List.getElem?_cons_zero, List.getElem?_cons_succ, List.set_cons_zero, List.set_cons_succ, Option.map_some, Option.map_none, List.getD, Option.getD_some, if_true, true_and, and_true, Nat.reduceAdd, Nat.reduceSub, reduceIte, Bool.false_eq_true, Bool.not_true, Bool.not_false, is_iff, eqI_self]
  refine gcd_call (a := f) (b := f) ?_
  rw [Nat.gcd_self]
  simp [vw_jk, at_0, at_1, at_2, at_3, at_4, ix_40, ix_41, ix_42, ix_43, boolsD_comp, intsD_comp, sh_int, sh_bool, sh_none, sh_str, ev_int, ev_bool, ev_str, ev_none, ev_ni, ev_in, uIfS, evT, ev, uRet, uRetO, uRetN, uDrop, uSet, uSetO, uMove, uFrz, uNext, uBreak, uCont, uApp, uIns, uPut, uPutA, uAug, uRaise, uVar, uC, uOp, uUn, uTru, uTst, uNot, uAnd, uOr, uAndV, uOrV, uNotV, uIf, uNil, uCons, argU, uTup, uLst, allD, onDs, onD, onT, onBool, oI, oIC, oAdd, oEq, oIsN, isN_none, isN_int, isN_bool, isN_str, isN_list, isN_tup, truD, oIx, uSl, uPart, uNoP, oSl, uCB, oLen, oList, oTuple, oInt, oAbs, oAll, oAny, oSum, onB, onI, uIs, uIs2, isT, uCall, uCallP, pick, vw, vw1, okU, okX, nolU, nol, nols, startU, kOf, kQ, kT, onL, uSeqI, uRng1, uRng2, rOk, uEnum, uRep, uTupRev, uYes, ugN, ugT2, wipeU, setU, uIfQ, uRetQ, uSetQ, uPutQ, ixC, uPar, uAsgT, uChain, uCall0, sizeLine_eq, oMax2, oSortI, oStrI, oIsB, szD, List.map_cons, List.map_nil, List.length_cons, List.length_nil, List.replicate, List.cons_append, List.nil_append, List.getElem?_cons_zero, List.getElem?_cons_succ, List.set_cons_zero, List.set_cons_succ, Option.map_some, Option.map_none, List.getD, Option.getD_some, if_true, true_and, and_true, Nat.reduceAdd, Nat.reduceSub, reduceIte, Bool.false_eq_true, Bool.not_true, Bool.not_false, is_iff, eqI]
  rw [hN9]
  -- lcm with 1
  refine i_seq fun N10 hN10 => ?_
  simp [vw_jk, at_0, at_1, at_2, at_3, at_4, ix_40, ix_41, ix_42, ix_43, boolsD_comp, intsD_comp, sh_int, sh_bool, sh_none, sh_str, ev_int, ev_bool, ev_str, ev_none, ev_ni, ev_in, uIfS, evT, ev, uRet, uRetO, uRetN, uDrop, uSet, uSetO, uMove, uFrz, uNext, uBreak, uCont, uApp, uIns, uPut, uPutA, uAug, uRaise, uVar, uC, uOp, uUn, uTru, uTst, uNot, uAnd, uOr, uAndV, uOrV, uNotV, uIf, uNil, uCons, argU, uTup, uLst, allD, onDs, onD, onT, onBool, oI, oIC, oAdd, oEq, oIsN, isN_none, isN_int, isN_bool, isN_str, isN_list, isN_tup, truD, oIx, uSl, uPart, uNoP, oSl, uCB, oLen, oList, oTuple, oInt, oAbs, oAll, oAny, oSum, onB, onI, uIs, uIs2, isT, uCall, uCallP, pick, vw, vw1, okU, okX, nolU, nol, nols, startU, kOf, kQ, kT, onL, uSeqI, uRng1, uRng2, rOk, uEnum, uRep, uTupRev, uYes, ugN, ugT2, wipeU, setU, uIfQ, uRetQ, uSetQ, uPutQ, ixC, uPar, uAsgT, uChain, uCall0, sizeLine_eq, oMax2, oSortI, oStrI, oIsB, szD, List.map_cons, List.map_nil, List.length_cons, List.length_nil, List.replicate, List.cons_append, List.nil_append, List.getElem?_cons_zero, List.getElem?_cons_succ, List.set_cons_zero, List.set_cons_succ, Option.map_some, Option.map_none, List.getD, Option.getD_some, if_true, true_and, and_true, Nat.reduceAdd, Nat.reduceSub, reduceIte, Bool.false_eq_true, Bool.not_true, Bool.not_false]
  refine lcm_call (a := f) (b := 1) hf (by decide) (by decide) ?_
  rw [Nat.gcd_one_right, Nat.div_one, Nat.mul_one]
  simp [vw_jk, at_0, at_1, at_2, at_3, at_4, ix_40, ix_41, ix_42, ix_43, boolsD_comp, intsD_comp, sh_int, sh_bool, sh_none, sh_str, ev_int, ev_bool, ev_str, ev_none, ev_ni, ev_in, uIfS, evT, ev, uRet, uRetO, uRetN, uDrop, uSet, uSetO, uMove, uFrz, uNext, uBreak, uCont, uApp, uIns, uPut, uPutA, uAug, uRaise, uVar, uC, uOp, uUn, uTru, uTst, uNot, uAnd, uOr, uAndV, uOrV, uNotV, uIf, uNil, uCons, argU, uTup, uLst, allD, onDs, onD, onT, onBool, oI, oIC, oAdd, oEq, oIsN, isN_none, isN_int, isN_bool, isN_str, isN_list, isN_tup, truD, oIx, uSl, uPart, uNoP, oSl, uCB, oLen, oList, oTuple, oInt, oAbs, oAll, oAny, oSum, onB, onI, uIs, uIs2, isT, uCall, uCallP, pick, vw, vw1, okU, okX, nolU, nol, nols, startU, kOf, kQ, kT, onL, uSeqI, uRng1, uRng2, rOk, uEnum, uRep, uTupRev, uYes, ugN, ugT2, wipeU, setU, uIfQ, uRetQ, uSetQ, uPutQ, ixC, uPar, uAsgT, uChain, uCall0, sizeLine_eq, oMax2, oSortI, oStrI, oIsB, szD, List.map_cons, List.map_nil, List.length_cons, List.length_nil, List.replicate, List.cons_append, List.nil_append, List.getElem?_cons_zero, List.getElem?_cons_succ, List.set_cons_zero, List.set_cons_succ, Option.map_some, Option.map_none, List.getD, Option.getD_some, if_true, true_and, and_true, Nat.reduceAdd, Nat.reduceSub, reduceIte, Bool.false_eq_true, Bool.not_true, Bool.not_false, is_iff, eqI_self]
  refine lcm_call (a := f) (b := f) hf f0 hf ?_
  rw [Nat.gcd_self, Nat.div_self f0, Nat.one_mul]
  simp [vw_jk, at_0, at_1, at_2, at_3, at_4, ix_40, ix_41, ix_42, ix_43, boolsD_comp, intsD_comp, sh_int, sh_bool, sh_none, sh_str, ev_int, ev_bool, ev_str, ev_none, ev_ni, ev_in, uIfS, evT, ev, uRet, uRetO, uRetN, uDrop, uSet, uSetO, uMove, uFrz, uNext, uBreak, uCont, uApp, uIns, uPut, uPutA, uAug, uRaise, uVar, uC, uOp, uUn, uTru, uTst, uNot, uAnd, uOr, uAndV, uOrV, uNotV, uIf, uNil, uCons, argU, uTup, uLst, allD, onDs, onD, onT, onBool, oI, oIC, oAdd, oEq, oIsN, isN_none, isN_int, isN_bool, isN_str, isN_list, isN_tup, truD, oIx, uSl, uPart, uNoP, oSl, uCB, oLen, oList, oTuple, oInt, oAbs, oAll, oAny, oSum, onB, onI, uIs, uIs2, isT, uCall, uCallP, pick, vw, vw1, okU, okX, nolU, nol, nols, startU, kOf, kQ, kT, onL, uSeqI, uRng1, uRng2, rOk, uEnum, uRep, uTupRev, uYes, ugN, ugT2, wipeU, setU, uIfQ, uRetQ, uSetQ, uPutQ, ixC, uPar, uAsgT, uChain, uCall0, sizeLine_eq, oMax2, oSortI, oStrI, oIsB, szD, List.map_cons, List.map_nil, List.length_cons, List.length_nil, List.replicate, List.cons_append, List.nil_append, List.getElem?_cons_zero, List.getElem?_cons_succ, List.set_cons_zero, List.set_cons_succ, Option.map_some, Option.map_none, List.getD, Option.getD_some, if_true, true_and, and_true, Nat.reduceAdd, Nat.reduceSub, reduceIte, Bool.false_eq_true, Bool.not_true, Bool.not_false, is_iff, eqI]
  rw [hN10]
  -- turns
  have hlohi : 0 < t → lo < hi := fun z => by
    have := pr.hh
    have := Nat.mul_le_mul_left lo (show 1 ≤ t from z)
    omega
  have hlt2 : 0 < t → sh * lo < sh * hi := fun z => Nat.mul_lt_mul_of_pos_left (hlohi z) sh0
  have hgcd : Nat.gcd lo hi = 1 := by rw [pr.hh]; exact gcd_next lo t
  have turn : 0 < t → ∀ {P : U → Prop} {PX : Ex → Prop}, P (.d (.int hi)) → fn__law_asked K [.d (.str "turns"), .d (.int (sh * hi)), .d (.int (sh * lo)), .d (.int lap)] P PX := fun z P PX h => by
    rw [e2, e3]
    refine ask_turns (Nat.mul_pos sh0 hhi0) (by omega) (hlt2 z) ?_
    rw [Nat.gcd_mul_left, hgcd, Nat.mul_one, Nat.mul_div_cancel_left hi sh0]
    exact h
  refine i_cut (fun s' => s' = [some (.hold HVk), some (.d (.int lap)), some (.d (.int sh)), some (.d (.int lo)), some (.d (.int t)), some (.d (.int hi)), some (.d (.int f)), some (.d (.int g)), none, none, none]) ?_ ?_
  rotate_left
  · intro M hM
    simp [vw_jk, at_0, at_1, at_2, at_3, at_4, ix_40, ix_41, ix_42, ix_43, boolsD_comp, intsD_comp, sh_int, sh_bool, sh_none, sh_str, ev_int, ev_bool, ev_str, ev_none, ev_ni, ev_in, uIfS, evT, ev, uRet, uRetO, uRetN, uDrop, uSet, uSetO, uMove, uFrz, uNext, uBreak, uCont, uApp, uIns, uPut, uPutA, uAug, uRaise, uVar, uC, uOp, uUn, uTru, uTst, uNot, uAnd, uOr, uAndV, uOrV, uNotV, uIf, uNil, uCons, argU, uTup, uLst, allD, onDs, onD, onT, onBool, oI, oIC, oAdd, oEq, oIsN, isN_none, isN_int, isN_bool, isN_str, isN_list, isN_tup, truD, oIx, uSl, uPart, uNoP, oSl, uCB, oLen, oList, oTuple, oInt, oAbs, oAll, oAny, oSum, onB, onI, uIs, uIs2, isT, uCall, uCallP, pick, vw, vw1, okU, okX, nolU, nol, nols, startU, kOf, kQ, kT, onL, uSeqI, uRng1, uRng2, rOk, uEnum, uRep, uTupRev, uYes, ugN, ugT2, wipeU, setU, uIfQ, uRetQ, uSetQ, uPutQ, ixC, uPar, uAsgT, uChain, uCall0, sizeLine_eq, oMax2, oSortI, oStrI, oIsB, szD, List.map_cons, List.map_nil, List.length_cons, List.length_nil, List.replicate, List.cons_append, List.nil_append, List.getElem?_cons_zero, List.getElem?_cons_succ, List.set_cons_zero, List.set_cons_succ, Option.map_some, Option.map_none, List.getD, Option.getD_some, if_true, true_and, and_true, Nat.reduceAdd, Nat.reduceSub, reduceIte, Bool.false_eq_true, Bool.not_true, Bool.not_false]
    split
    · next ht =>
      have ht : 0 < t := by omega
      refine ⟨mulC (by omega) (by omega), mulC (by omega) (by omega), turn ht ?_⟩
      simp [vw_jk, at_0, at_1, at_2, at_3, at_4, ix_40, ix_41, ix_42, ix_43, boolsD_comp, intsD_comp, sh_int, sh_bool, sh_none, sh_str, ev_int, ev_bool, ev_str, ev_none, ev_ni, ev_in, uIfS, evT, ev, uRet, uRetO, uRetN, uDrop, uSet, uSetO, uMove, uFrz, uNext, uBreak, uCont, uApp, uIns, uPut, uPutA, uAug, uRaise, uVar, uC, uOp, uUn, uTru, uTst, uNot, uAnd, uOr, uAndV, uOrV, uNotV, uIf, uNil, uCons, argU, uTup, uLst, allD, onDs, onD, onT, onBool, oI, oIC, oAdd, oEq, oIsN, isN_none, isN_int, isN_bool, isN_str, isN_list, isN_tup, truD, oIx, uSl, uPart, uNoP, oSl, uCB, oLen, oList, oTuple, oInt, oAbs, oAll, oAny, oSum, onB, onI, uIs, uIs2, isT, uCall, uCallP, pick, vw, vw1, okU, okX, nolU, nol, nols, startU, kOf, kQ, kT, onL, uSeqI, uRng1, uRng2, rOk, uEnum, uRep, uTupRev, uYes, ugN, ugT2, wipeU, setU, uIfQ, uRetQ, uSetQ, uPutQ, ixC, uPar, uAsgT, uChain, uCall0, sizeLine_eq, oMax2, oSortI, oStrI, oIsB, szD, List.map_cons, List.map_nil, List.length_cons, List.length_nil, List.replicate, List.cons_append, List.nil_append, List.getElem?_cons_zero, List.getElem?_cons_succ, List.set_cons_zero, List.set_cons_succ, Option.map_some, Option.map_none, List.getD, Option.getD_some, if_true, true_and, and_true, Nat.reduceAdd, Nat.reduceSub, reduceIte, Bool.false_eq_true, Bool.not_true, Bool.not_false, is_iff, eqI]
      exact hM _ rfl
    · exact hM _ rfl
  rintro s' rfl
  refine i_seq fun N11 hN11 => ?_
  simp [vw_jk, at_0, at_1, at_2, at_3, at_4, ix_40, ix_41, ix_42, ix_43, boolsD_comp, intsD_comp, sh_int, sh_bool, sh_none, sh_str, ev_int, ev_bool, ev_str, ev_none, ev_ni, ev_in, uIfS, evT, ev, uRet, uRetO, uRetN, uDrop, uSet, uSetO, uMove, uFrz, uNext, uBreak, uCont, uApp, uIns, uPut, uPutA, uAug, uRaise, uVar, uC, uOp, uUn, uTru, uTst, uNot, uAnd, uOr, uAndV, uOrV, uNotV, uIf, uNil, uCons, argU, uTup, uLst, allD, onDs, onD, onT, onBool, oI, oIC, oAdd, oEq, oIsN, isN_none, isN_int, isN_bool, isN_str, isN_list, isN_tup, truD, oIx, uSl, uPart, uNoP, oSl, uCB, oLen, oList, oTuple, oInt, oAbs, oAll, oAny, oSum, onB, onI, uIs, uIs2, isT, uCall, uCallP, pick, vw, vw1, okU, okX, nolU, nol, nols, startU, kOf, kQ, kT, onL, uSeqI, uRng1, uRng2, rOk, uEnum, uRep, uTupRev, uYes, ugN, ugT2, wipeU, setU, uIfQ, uRetQ, uSetQ, uPutQ, ixC, uPar, uAsgT, uChain, uCall0, sizeLine_eq, oMax2, oSortI, oStrI, oIsB, szD, List.map_cons, List.map_nil, List.length_cons, List.length_nil, List.replicate, List.cons_append, List.nil_append, List.getElem?_cons_zero, List.getElem?_cons_succ, List.set_cons_zero, List.set_cons_succ, Option.map_some, Option.map_none, List.getD, Option.getD_some, if_true, true_and, and_true, Nat.reduceAdd, Nat.reduceSub, reduceIte, Bool.false_eq_true, Bool.not_true, Bool.not_false]
  refine turns_call (a := f) (b := 0) f0 hf f0 ?_
  rw [Nat.gcd_zero_left, Nat.div_self f0]
  simp [vw_jk, at_0, at_1, at_2, at_3, at_4, ix_40, ix_41, ix_42, ix_43, boolsD_comp, intsD_comp, sh_int, sh_bool, sh_none, sh_str, ev_int, ev_bool, ev_str, ev_none, ev_ni, ev_in, uIfS, evT, ev, uRet, uRetO, uRetN, uDrop, uSet, uSetO, uMove, uFrz, uNext, uBreak, uCont, uApp, uIns, uPut, uPutA, uAug, uRaise, uVar, uC, uOp, uUn, uTru, uTst, uNot, uAnd, uOr, uAndV, uOrV, uNotV, uIf, uNil, uCons, argU, uTup, uLst, allD, onDs, onD, onT, onBool, oI, oIC, oAdd, oEq, oIsN, isN_none, isN_int, isN_bool, isN_str, isN_list, isN_tup, truD, oIx, uSl, uPart, uNoP, oSl, uCB, oLen, oList, oTuple, oInt, oAbs, oAll, oAny, oSum, onB, onI, uIs, uIs2, isT, uCall, uCallP, pick, vw, vw1, okU, okX, nolU, nol, nols, startU, kOf, kQ, kT, onL, uSeqI, uRng1, uRng2, rOk, uEnum, uRep, uTupRev, uYes, ugN, ugT2, wipeU, setU, uIfQ, uRetQ, uSetQ, uPutQ, ixC, uPar, uAsgT, uChain, uCall0, sizeLine_eq, oMax2, oSortI, oStrI, oIsB, szD, List.map_cons, List.map_nil, List.length_cons, List.length_nil, List.replicate, List.cons_append, List.nil_append, List.getElem?_cons_zero, List.getElem?_cons_succ, List.set_cons_zero, List.set_cons_succ, Option.map_some, Option.map_none, List.getD, Option.getD_some, if_true, true_and, and_true, Nat.reduceAdd, Nat.reduceSub, reduceIte, Bool.false_eq_true, Bool.not_true, Bool.not_false, is_iff, eqI]
  rw [hN11]
  refine i_cut (fun s' => s' = [some (.hold HVk), some (.d (.int lap)), some (.d (.int sh)), some (.d (.int lo)), some (.d (.int t)), some (.d (.int hi)), some (.d (.int f)), some (.d (.int g)), none, none, none]) ?_ ?_
  rotate_left
  · intro M hM
    simp [vw_jk, at_0, at_1, at_2, at_3, at_4, ix_40, ix_41, ix_42, ix_43, boolsD_comp, intsD_comp, sh_int, sh_bool, sh_none, sh_str, ev_int, ev_bool, ev_str, ev_none, ev_ni, ev_in, uIfS, evT, ev, uRet, uRetO, uRetN, uDrop, uSet, uSetO, uMove, uFrz, uNext, uBreak, uCont, uApp, uIns, uPut, uPutA, uAug, uRaise, uVar, uC, uOp, uUn, uTru, uTst, uNot, uAnd, uOr, uAndV, uOrV, uNotV, uIf, uNil, uCons, argU, uTup, uLst, allD, onDs, onD, onT, onBool, oI, oIC, oAdd, oEq, oIsN, isN_none, isN_int, isN_bool, isN_str, isN_list, isN_tup, truD, oIx, uSl, uPart, uNoP, oSl, uCB, oLen, oList, oTuple, oInt, oAbs, oAll, oAny, oSum, onB, onI, uIs, uIs2, isT, uCall, uCallP, pick, vw, vw1, okU, okX, nolU, nol, nols, startU, kOf, kQ, kT, onL, uSeqI, uRng1, uRng2, rOk, uEnum, uRep, uTupRev, uYes, ugN, ugT2, wipeU, setU, uIfQ, uRetQ, uSetQ, uPutQ, ixC, uPar, uAsgT, uChain, uCall0, sizeLine_eq, oMax2, oSortI, oStrI, oIsB, szD, List.map_cons, List.map_nil, List.length_cons, List.length_nil, List.replicate, List.cons_append, List.nil_append, List.getElem?_cons_zero, List.getElem?_cons_succ, List.set_cons_zero, List.set_cons_succ, Option.map_some, Option.map_none, List.getD, Option.getD_some, if_true, true_and, and_true, Nat.reduceAdd, Nat.reduceSub, reduceIte, Bool.false_eq_true, Bool.not_true, Bool.not_false]
    split
    · next ht =>
      have ht : 0 < t := by omega
      refine ask_inverse hhi0 (by omega) (hlohi ht) (fun z => absurd hgcd z) fun _ r r0 r1 r2 => ?_
      have htl : t < hi := by
        have := pr.hh
        have := Nat.mul_le_mul_right t lo0
        omega
      have er : r = (hi : Int) - t := by
        refine inv_uniq (p := lo) r0 r1 (by omega) (by omega) r2 ?_
        have e9 : ((hi : Int) - t) * lo = 1 + hi * (lo - 1) := by
          have : (hi : Int) = lo * t + 1 := by rw [pr.hh]; simp
          rw [Int.sub_mul, Int.mul_sub, Int.mul_one, Int.mul_comm (t : Int) lo]
          omega
        rw [e9, Int.add_mul_emod_self_left]
      rw [er]
      simp [vw_jk, at_0, at_1, at_2, at_3, at_4, ix_40, ix_41, ix_42, ix_43, boolsD_comp, intsD_comp, sh_int, sh_bool, sh_none, sh_str, ev_int, ev_bool, ev_str, ev_none, ev_ni, ev_in, uIfS, evT, ev, uRet, uRetO, uRetN, uDrop, uSet, uSetO, uMove, uFrz, uNext, uBreak, uCont, uApp, uIns, uPut, uPutA, uAug, uRaise, uVar, uC, uOp, uUn, uTru, uTst, uNot, uAnd, uOr, uAndV, uOrV, uNotV, uIf, uNil, uCons, argU, uTup, uLst, allD, onDs, onD, onT, onBool, oI, oIC, oAdd, oEq, oIsN, isN_none, isN_int, isN_bool, isN_str, isN_list, isN_tup, truD, oIx, uSl, uPart, uNoP, oSl, uCB, oLen, oList, oTuple, oInt, oAbs, oAll, oAny, oSum, onB, onI, uIs, uIs2, isT, uCall, uCallP, pick, vw, vw1, okU, okX, nolU, nol, nols, startU, kOf, kQ, kT, onL, uSeqI, uRng1, uRng2, rOk, uEnum, uRep, uTupRev, uYes, ugN, ugT2, wipeU, setU, uIfQ, uRetQ, uSetQ, uPutQ, ixC, uPar, uAsgT, uChain, uCall0, sizeLine_eq, oMax2, oSortI, oStrI, oIsB, szD, List.map_cons, List.map_nil, List.length_cons, List.length_nil, List.replicate, List.cons_append, List.nil_append, List.getElem?_cons_zero, List.getElem?_cons_succ, List.set_cons_zero, List.set_cons_succ, Option.map_some, Option.map_none, List.getD, Option.getD_some, if_true, true_and, and_true, Nat.reduceAdd, Nat.reduceSub, reduceIte, Bool.false_eq_true, Bool.not_true, Bool.not_false, is_iff, eqI]
      exact hM _ rfl
    · exact hM _ rfl
  rintro s' rfl
  refine i_cut (fun s' => s' = [some (.hold HVk), some (.d (.int lap)), some (.d (.int sh)), some (.d (.int lo)), some (.d (.int t)), some (.d (.int hi)), some (.d (.int f)), some (.d (.int g)), none, none, none]) ?_ ?_
  rotate_left
  · intro M hM
    simp [vw_jk, at_0, at_1, at_2, at_3, at_4, ix_40, ix_41, ix_42, ix_43, boolsD_comp, intsD_comp, sh_int, sh_bool, sh_none, sh_str, ev_int, ev_bool, ev_str, ev_none, ev_ni, ev_in, uIfS, evT, ev, uRet, uRetO, uRetN, uDrop, uSet, uSetO, uMove, uFrz, uNext, uBreak, uCont, uApp, uIns, uPut, uPutA, uAug, uRaise, uVar, uC, uOp, uUn, uTru, uTst, uNot, uAnd, uOr, uAndV, uOrV, uNotV, uIf, uNil, uCons, argU, uTup, uLst, allD, onDs, onD, onT, onBool, oI, oIC, oAdd, oEq, oIsN, isN_none, isN_int, isN_bool, isN_str, isN_list, isN_tup, truD, oIx, uSl, uPart, uNoP, oSl, uCB, oLen, oList, oTuple, oInt, oAbs, oAll, oAny, oSum, onB, onI, uIs, uIs2, isT, uCall, uCallP, pick, vw, vw1, okU, okX, nolU, nol, nols, startU, kOf, kQ, kT, onL, uSeqI, uRng1, uRng2, rOk, uEnum, uRep, uTupRev, uYes, ugN, ugT2, wipeU, setU, uIfQ, uRetQ, uSetQ, uPutQ, ixC, uPar, uAsgT, uChain, uCall0, sizeLine_eq, oMax2, oSortI, oStrI, oIsB, szD, List.map_cons, List.map_nil, List.length_cons, List.length_nil, List.replicate, List.cons_append, List.nil_append, List.getElem?_cons_zero, List.getElem?_cons_succ, List.set_cons_zero, List.set_cons_succ, Option.map_some, Option.map_none, List.getD, Option.getD_some, if_true, true_and, and_true, Nat.reduceAdd, Nat.reduceSub, reduceIte, Bool.false_eq_true, Bool.not_true, Bool.not_false]
    split
    · next ht =>
      have ht : 0 < t := by omega
      split
      · next hs1 =>
        refine ⟨mulC (by omega) (by omega), mulC (by omega) (by omega), ?_⟩
        rw [e2, e3]
        refine ask_inverse (Nat.mul_pos sh0 hhi0) (by omega) (hlt2 ht) (fun _ => ?_) fun z => ?_
        · simp [vw_jk, at_0, at_1, at_2, at_3, at_4, ix_40, ix_41, ix_42, ix_43, boolsD_comp, intsD_comp, sh_int, sh_bool, sh_none, sh_str, ev_int, ev_bool, ev_str, ev_none, ev_ni, ev_in, uIfS, evT, ev, uRet, uRetO, uRetN, uDrop, uSet, uSetO, uMove, uFrz, uNext, uBreak, uCont, uApp, uIns, uPut, uPutA, uAug, uRaise, uVar, uC, uOp, uUn, uTru, uTst, uNot, uAnd, uOr, uAndV, uOrV, uNotV, uIf, uNil, uCons, argU, uTup, uLst, allD, onDs, onD, onT, onBool, oI, oIC, oAdd, oEq, oIsN, isN_none, isN_int, isN_bool, isN_str, isN_list, isN_tup, truD, oIx, uSl, uPart, uNoP, oSl, uCB, oLen, oList, oTuple, oInt, oAbs, oAll, oAny, oSum, onB, onI, uIs, uIs2, isT, uCall, uCallP, pick, vw, vw1, okU, okX, nolU, nol, nols, startU, kOf, kQ, kT, onL, uSeqI, uRng1, uRng2, rOk, uEnum, uRep, uTupRev, uYes, ugN, ugT2, wipeU, setU, uIfQ, uRetQ, uSetQ, uPutQ, ixC, uPar, uAsgT, uChain, uCall0, sizeLine_eq, oMax2, oSortI, oStrI, oIsB, szD, List.map_cons, List.map_nil, List.length_cons, List.length_nil, List.replicate, List.cons_append, List.nil_append, List.getElem?_cons_zero, List.getElem?_cons_succ, List.set_cons_zero, List.set_cons_succ, Option.map_some, Option.map_none, List.getD, Option.getD_some, if_true, true_and, and_true, Nat.reduceAdd, Nat.reduceSub, reduceIte, Bool.false_eq_true, Bool.not_true, Bool.not_false]
          exact hM _ rfl
        · rw [Nat.gcd_mul_left, hgcd] at z
          omega
      · exact hM _ rfl
    · exact hM _ rfl
  rintro s' rfl
  refine i_seq fun N12 hN12 => ?_
  simp [vw_jk, at_0, at_1, at_2, at_3, at_4, ix_40, ix_41, ix_42, ix_43, boolsD_comp, intsD_comp, sh_int, sh_bool, sh_none, sh_str, ev_int, ev_bool, ev_str, ev_none, ev_ni, ev_in, uIfS, evT, ev, uRet, uRetO, uRetN, uDrop, uSet, uSetO, uMove, uFrz, uNext, uBreak, uCont, uApp, uIns, uPut, uPutA, uAug, uRaise, uVar, uC, uOp, uUn, uTru, uTst, uNot, uAnd, uOr, uAndV, uOrV, uNotV, uIf, uNil, uCons, argU, uTup, uLst, allD, onDs, onD, onT, onBool, oI, oIC, oAdd, oEq, oIsN, isN_none, isN_int, isN_bool, isN_str, isN_list, isN_tup, truD, oIx, uSl, uPart, uNoP, oSl, uCB, oLen, oList, oTuple, oInt, oAbs, oAll, oAny, oSum, onB, onI, uIs, uIs2, isT, uCall, uCallP, pick, vw, vw1, okU, okX, nolU, nol, nols, startU, kOf, kQ, kT, onL, uSeqI, uRng1, uRng2, rOk, uEnum, uRep, uTupRev, uYes, ugN, ugT2, wipeU, setU, uIfQ, uRetQ, uSetQ, uPutQ, ixC, uPar, uAsgT, uChain, uCall0, sizeLine_eq, oMax2, oSortI, oStrI, oIsB, szD, List.map_cons, List.map_nil, List.length_cons, List.length_nil, List.replicate, List.cons_append, List.nil_append, List.getElem?_cons_zero, List.getElem?_cons_succ, List.set_cons_zero, List.set_cons_succ, Option.map_some, Option.map_none, List.getD, Option.getD_some, if_true, true_and, and_true, Nat.reduceAdd, Nat.reduceSub, reduceIte, Bool.false_eq_true, Bool.not_true, Bool.not_false]
  refine tkN 13 rfl (by decide) (by decide) fun q hq => ?_
  simp [vw_jk, at_0, at_1, at_2, at_3, at_4, ix_40, ix_41, ix_42, ix_43, boolsD_comp, intsD_comp, sh_int, sh_bool, sh_none, sh_str, ev_int, ev_bool, ev_str, ev_none, ev_ni, ev_in, uIfS, evT, ev, uRet, uRetO, uRetN, uDrop, uSet, uSetO, uMove, uFrz, uNext, uBreak, uCont, uApp, uIns, uPut, uPutA, uAug, uRaise, uVar, uC, uOp, uUn, uTru, uTst, uNot, uAnd, uOr, uAndV, uOrV, uNotV, uIf, uNil, uCons, argU, uTup, uLst, allD, onDs, onD, onT, onBool, oI, oIC, oAdd, oEq, oIsN, isN_none, isN_int, isN_bool, isN_str, isN_list, isN_tup, truD, oIx, uSl, uPart, uNoP, oSl, uCB, oLen, oList, oTuple, oInt, oAbs, oAll, oAny, oSum, onB, onI, uIs, uIs2, isT, uCall, uCallP, pick, vw, vw1, okU, okX, nolU, nol, nols, startU, kOf, kQ, kT, onL, uSeqI, uRng1, uRng2, rOk, uEnum, uRep, uTupRev, uYes, ugN, ugT2, wipeU, setU, uIfQ, uRetQ, uSetQ, uPutQ, ixC, uPar, uAsgT, uChain, uCall0, sizeLine_eq, oMax2, oSortI, oStrI, oIsB, szD, List.map_cons, List.map_nil, List.length_cons, List.length_nil, List.replicate, List.cons_append, List.nil_append, List.getElem?_cons_zero, List.getElem?_cons_succ, List.set_cons_zero, List.set_cons_succ, Option.map_some, Option.map_none, List.getD, Option.getD_some, if_true, true_and, and_true, Nat.reduceAdd, Nat.reduceSub, reduceIte, Bool.false_eq_true, Bool.not_true, Bool.not_false]
  refine odd_call f0 hf fun y hy1 hy2 => ?_
  simp [vw_jk, at_0, at_1, at_2, at_3, at_4, ix_40, ix_41, ix_42, ix_43, boolsD_comp, intsD_comp, sh_int, sh_bool, sh_none, sh_str, ev_int, ev_bool, ev_str, ev_none, ev_ni, ev_in, uIfS, evT, ev, uRet, uRetO, uRetN, uDrop, uSet, uSetO, uMove, uFrz, uNext, uBreak, uCont, uApp, uIns, uPut, uPutA, uAug, uRaise, uVar, uC, uOp, uUn, uTru, uTst, uNot, uAnd, uOr, uAndV, uOrV, uNotV, uIf, uNil, uCons, argU, uTup, uLst, allD, onDs, onD, onT, onBool, oI, oIC, oAdd, oEq, oIsN, isN_none, isN_int, isN_bool, isN_str, isN_list, isN_tup, truD, oIx, uSl, uPart, uNoP, oSl, uCB, oLen, oList, oTuple, oInt, oAbs, oAll, oAny, oSum, onB, onI, uIs, uIs2, isT, uCall, uCallP, pick, vw, vw1, okU, okX, nolU, nol, nols, startU, kOf, kQ, kT, onL, uSeqI, uRng1, uRng2, rOk, uEnum, uRep, uTupRev, uYes, ugN, ugT2, wipeU, setU, uIfQ, uRetQ, uSetQ, uPutQ, ixC, uPar, uAsgT, uChain, uCall0, sizeLine_eq, oMax2, oSortI, oStrI, oIsB, szD, List.map_cons, List.map_nil, List.length_cons, List.length_nil, List.replicate, List.cons_append, List.nil_append, List.getElem?_cons_zero, List.getElem?_cons_succ, List.set_cons_zero, List.set_cons_succ, Option.map_some, Option.map_none, List.getD, Option.getD_some, if_true, true_and, and_true, Nat.reduceAdd, Nat.reduceSub, reduceIte, Bool.false_eq_true, Bool.not_true, Bool.not_false]
  rw [hN12]
  refine i_seq fun N13 hN13 => ?_
  simp [vw_jk, at_0, at_1, at_2, at_3, at_4, ix_40, ix_41, ix_42, ix_43, boolsD_comp, intsD_comp, sh_int, sh_bool, sh_none, sh_str, ev_int, ev_bool, ev_str, ev_none, ev_ni, ev_in, uIfS, evT, ev, uRet, uRetO, uRetN, uDrop, uSet, uSetO, uMove, uFrz, uNext, uBreak, uCont, uApp, uIns, uPut, uPutA, uAug, uRaise, uVar, uC, uOp, uUn, uTru, uTst, uNot, uAnd, uOr, uAndV, uOrV, uNotV, uIf, uNil, uCons, argU, uTup, uLst, allD, onDs, onD, onT, onBool, oI, oIC, oAdd, oEq, oIsN, isN_none, isN_int, isN_bool, isN_str, isN_list, isN_tup, truD, oIx, uSl, uPart, uNoP, oSl, uCB, oLen, oList, oTuple, oInt, oAbs, oAll, oAny, oSum, onB, onI, uIs, uIs2, isT, uCall, uCallP, pick, vw, vw1, okU, okX, nolU, nol, nols, startU, kOf, kQ, kT, onL, uSeqI, uRng1, uRng2, rOk, uEnum, uRep, uTupRev, uYes, ugN, ugT2, wipeU, setU, uIfQ, uRetQ, uSetQ, uPutQ, ixC, uPar, uAsgT, uChain, uCall0, sizeLine_eq, oMax2, oSortI, oStrI, oIsB, szD, List.map_cons, List.map_nil, List.length_cons, List.length_nil, List.replicate, List.cons_append, List.nil_append, List.getElem?_cons_zero, List.getElem?_cons_succ, List.set_cons_zero, List.set_cons_succ, Option.map_some, Option.map_none, List.getD, Option.getD_some, if_true, true_and, and_true, Nat.reduceAdd, Nat.reduceSub, reduceIte, Bool.false_eq_true, Bool.not_true, Bool.not_false]
  refine tkN 4 rfl (by decide) (by decide) fun q2 hq2 => ?_
  simp [vw_jk, at_0, at_1, at_2, at_3, at_4, ix_40, ix_41, ix_42, ix_43, boolsD_comp, intsD_comp, sh_int, sh_bool, sh_none, sh_str, ev_int, ev_bool, ev_str, ev_none, ev_ni, ev_in, uIfS, evT, ev, uRet, uRetO, uRetN, uDrop, uSet, uSetO, uMove, uFrz, uNext, uBreak, uCont, uApp, uIns, uPut, uPutA, uAug, uRaise, uVar, uC, uOp, uUn, uTru, uTst, uNot, uAnd, uOr, uAndV, uOrV, uNotV, uIf, uNil, uCons, argU, uTup, uLst, allD, onDs, onD, onT, onBool, oI, oIC, oAdd, oEq, oIsN, isN_none, isN_int, isN_bool, isN_str, isN_list, isN_tup, truD, oIx, uSl, uPart, uNoP, oSl, uCB, oLen, oList, oTuple, oInt, oAbs, oAll, oAny, oSum, onB, onI, uIs, uIs2, isT, uCall, uCallP, pick, vw, vw1, okU, okX, nolU, nol, nols, startU, kOf, kQ, kT, onL, uSeqI, uRng1, uRng2, rOk, uEnum, uRep, uTupRev, uYes, ugN, ugT2, wipeU, setU, uIfQ, uRetQ, uSetQ, uPutQ, ixC, uPar, uAsgT, uChain, uCall0, sizeLine_eq, oMax2, oSortI, oStrI, oIsB, szD, List.map_cons, List.map_nil, List.length_cons, List.length_nil, List.replicate, List.cons_append, List.nil_append, List.getElem?_cons_zero, List.getElem?_cons_succ, List.set_cons_zero, List.set_cons_succ, Option.map_some, Option.map_none, List.getD, Option.getD_some, if_true, true_and, and_true, Nat.reduceAdd, Nat.reduceSub, reduceIte, Bool.false_eq_true, Bool.not_true, Bool.not_false]
  have hq2' : q2 = 0 ∨ q2 = 1 ∨ q2 = 2 ∨ q2 = 3 := by omega
  have last : ∀ {P : U → Prop} {PX : Ex → Prop}, P (.d (.bool true)) → fn__law_refused K [.d (.str "lcm"), .d (.int f), .d (.int 0), .d (.int lap), .d (.str "other")] P PX := fun h => ref_lcm hf (fun ⟨b, e, hb⟩ => by
    have := int_nat (a := 0) (b := b) e
    omega) h
  rcases hq2' with rfl | rfl | rfl | rfl
  all_goals (simp [vw_jk, at_0, at_1, at_2, at_3, at_4, ix_40, ix_41, ix_42, ix_43, boolsD_comp, intsD_comp, sh_int, sh_bool, sh_none, sh_str, ev_int, ev_bool, ev_str, ev_none, ev_ni, ev_in, uIfS, evT, ev, uRet, uRetO, uRetN, uDrop, uSet, uSetO, uMove, uFrz, uNext, uBreak, uCont, uApp, uIns, uPut, uPutA, uAug, uRaise, uVar, uC, uOp, uUn, uTru, uTst, uNot, uAnd, uOr, uAndV, uOrV, uNotV, uIf, uNil, uCons, argU, uTup, uLst, allD, onDs, onD, onT, onBool, oI, oIC, oAdd, oEq, oIsN, isN_none, isN_int, isN_bool, isN_str, isN_list, isN_tup, truD, oIx, uSl, uPart, uNoP, oSl, uCB, oLen, oList, oTuple, oInt, oAbs, oAll, oAny, oSum, onB, onI, uIs, uIs2, isT, uCall, uCallP, pick, vw, vw1, okU, okX, nolU, nol, nols, startU, kOf, kQ, kT, onL, uSeqI, uRng1, uRng2, rOk, uEnum, uRep, uTupRev, uYes, ugN, ugT2, wipeU, setU, uIfQ, uRetQ, uSetQ, uPutQ, ixC, uPar, uAsgT, uChain, uCall0, sizeLine_eq, oMax2, oSortI, oStrI, oIsB, szD, List.map_cons, List.map_nil, List.length_cons, List.length_nil, List.replicate, List.cons_append, List.nil_append, List.getElem?_cons_zero, List.getElem?_cons_succ, List.set_cons_zero, List.set_cons_succ, Option.map_some, Option.map_none, List.getD, Option.getD_some, if_true, true_and, and_true, Nat.reduceAdd, Nat.reduceSub, reduceIte, Bool.false_eq_true, Bool.not_true, Bool.not_false]; rw [hN13]; refine i_seq fun N14 hN14 => ?_; simp [vw_jk, at_0, at_1, at_2, at_3, at_4, ix_40, ix_41, ix_42, ix_43, boolsD_comp, intsD_comp, sh_int, sh_bool, sh_none, sh_str, ev_int, ev_bool, ev_str, ev_none, ev_ni, ev_in, uIfS, evT, ev, uRet, uRetO, uRetN, uDrop, uSet, uSetO, uMove, uFrz, uNext, uBreak, uCont, uApp, uIns, uPut, uPutA, uAug, uRaise, uVar, uC, uOp, uUn, uTru, uTst, uNot, uAnd, uOr, uAndV, uOrV, uNotV, uIf, uNil, uCons, argU, uTup, uLst, allD, onDs, onD, onT, onBool, oI, oIC, oAdd, oEq, oIsN, isN_none, isN_int, isN_bool, isN_str, isN_list, isN_tup, truD, oIx, uSl, uPart, uNoP, oSl, uCB, oLen, oList, oTuple, oInt, oAbs, oAll, oAny, oSum, onB, onI, uIs, uIs2, isT, uCall, uCallP, pick, vw, vw1, okU, okX, nolU, nol, nols, startU, kOf, kQ, kT, onL, uSeqI, uRng1, uRng2, rOk, uEnum, uRep, uTupRev, uYes, ugN, ugT2, wipeU, setU, uIfQ, uRetQ, uSetQ, uPutQ, ixC, uPar, uAsgT, uChain, uCall0, sizeLine_eq, oMax2, oSortI, oStrI, oIsB, szD, List.map_cons, List.map_nil, List.length_cons, List.length_nil, List.replicate, List.cons_append, List.nil_append, List.getElem?_cons_zero, List.getElem?_cons_succ, List.set_cons_zero, List.set_cons_succ, Option.map_some, Option.map_none, List.getD, Option.getD_some, if_true, true_and, and_true, Nat.reduceAdd, Nat.reduceSub, reduceIte, Bool.false_eq_true, Bool.not_true, Bool.not_false]; rw [hN14]; refine i_seq fun N15 hN15 => ?_; simp [vw_jk, at_0, at_1, at_2, at_3, at_4, ix_40, ix_41, ix_42, ix_43, boolsD_comp, intsD_comp, sh_int, sh_bool, sh_none, sh_str, ev_int, ev_bool, ev_str, ev_none, ev_ni, ev_in, uIfS, evT, ev, uRet, uRetO, uRetN, uDrop, uSet, uSetO, uMove, uFrz, uNext, uBreak, uCont, uApp, uIns, uPut, uPutA, uAug, uRaise, uVar, uC, uOp, uUn, uTru, uTst, uNot, uAnd, uOr, uAndV, uOrV, uNotV, uIf, uNil, uCons, argU, uTup, uLst, allD, onDs, onD, onT, onBool, oI, oIC, oAdd, oEq, oIsN, isN_none, isN_int, isN_bool, isN_str, isN_list, isN_tup, truD, oIx, uSl, uPart, uNoP, oSl, uCB, oLen, oList, oTuple, oInt, oAbs, oAll, oAny, oSum, onB, onI, uIs, uIs2, isT, uCall, uCallP, pick, vw, vw1, okU, okX, nolU, nol, nols, startU, kOf, kQ, kT, onL, uSeqI, uRng1, uRng2, rOk, uEnum, uRep, uTupRev, uYes, ugN, ugT2, wipeU, setU, uIfQ, uRetQ, uSetQ, uPutQ, ixC, uPar, uAsgT, uChain, uCall0, sizeLine_eq, oMax2, oSortI, oStrI, oIsB, szD, List.map_cons, List.map_nil, List.length_cons, List.length_nil, List.replicate, List.cons_append, List.nil_append, List.getElem?_cons_zero, List.getElem?_cons_succ, List.set_cons_zero, List.set_cons_succ, Option.map_some, Option.map_none, List.getD, Option.getD_some, if_true, true_and, and_true, Nat.reduceAdd, Nat.reduceSub, reduceIte, Bool.false_eq_true, Bool.not_true, Bool.not_false, sk_gcd, sk_lcm, sk_turns, sk_inverse])
  · rw [hN15]
    simp [vw_jk, at_0, at_1, at_2, at_3, at_4, ix_40, ix_41, ix_42, ix_43, boolsD_comp, intsD_comp, sh_int, sh_bool, sh_none, sh_str, ev_int, ev_bool, ev_str, ev_none, ev_ni, ev_in, uIfS, evT, ev, uRet, uRetO, uRetN, uDrop, uSet, uSetO, uMove, uFrz, uNext, uBreak, uCont, uApp, uIns, uPut, uPutA, uAug, uRaise, uVar, uC, uOp, uUn, uTru, uTst, uNot, uAnd, uOr, uAndV, uOrV, uNotV, uIf, uNil, uCons, argU, uTup, uLst, allD, onDs, onD, onT, onBool, oI, oIC, oAdd, oEq, oIsN, isN_none, isN_int, isN_bool, isN_str, isN_list, isN_tup, truD, oIx, uSl, uPart, uNoP, oSl, uCB, oLen, oList, oTuple, oInt, oAbs, oAll, oAny, oSum, onB, onI, uIs, uIs2, isT, uCall, uCallP, pick, vw, vw1, okU, okX, nolU, nol, nols, startU, kOf, kQ, kT, onL, uSeqI, uRng1, uRng2, rOk, uEnum, uRep, uTupRev, uYes, ugN, ugT2, wipeU, setU, uIfQ, uRetQ, uSetQ, uPutQ, ixC, uPar, uAsgT, uChain, uCall0, sizeLine_eq, oMax2, oSortI, oStrI, oIsB, szD, List.map_cons, List.map_nil, List.length_cons, List.length_nil, List.replicate, List.cons_append, List.nil_append, List.getElem?_cons_zero, List.getElem?_cons_succ, List.set_cons_zero, List.set_cons_succ, Option.map_some, Option.map_none, List.getD, Option.getD_some, if_true, true_and, and_true, Nat.reduceAdd, Nat.reduceSub, reduceIte, Bool.false_eq_true, Bool.not_true, Bool.not_false]
    refine ref_gcd hy1 ?_
    simp [vw_jk, at_0, at_1, at_2, at_3, at_4, ix_40, ix_41, ix_42, ix_43, boolsD_comp, intsD_comp, sh_int, sh_bool, sh_none, sh_str, ev_int, ev_bool, ev_str, ev_none, ev_ni, ev_in, uIfS, evT, ev, uRet, uRetO, uRetN, uDrop, uSet, uSetO, uMove, uFrz, uNext, uBreak, uCont, uApp, uIns, uPut, uPutA, uAug, uRaise, uVar, uC, uOp, uUn, uTru, uTst, uNot, uAnd, uOr, uAndV, uOrV, uNotV, uIf, uNil, uCons, argU, uTup, uLst, allD, onDs, onD, onT, onBool, oI, oIC, oAdd, oEq, oIsN, isN_none, isN_int, isN_bool, isN_str, isN_list, isN_tup, truD, oIx, uSl, uPart, uNoP, oSl, uCB, oLen, oList, oTuple, oInt, oAbs, oAll, oAny, oSum, onB, onI, uIs, uIs2, isT, uCall, uCallP, pick, vw, vw1, okU, okX, nolU, nol, nols, startU, kOf, kQ, kT, onL, uSeqI, uRng1, uRng2, rOk, uEnum, uRep, uTupRev, uYes, ugN, ugT2, wipeU, setU, uIfQ, uRetQ, uSetQ, uPutQ, ixC, uPar, uAsgT, uChain, uCall0, sizeLine_eq, oMax2, oSortI, oStrI, oIsB, szD, List.map_cons, List.map_nil, List.length_cons, List.length_nil, List.replicate, List.cons_append, List.nil_append, List.getElem?_cons_zero, List.getElem?_cons_succ, List.set_cons_zero, List.set_cons_succ, Option.map_some, Option.map_none, List.getD, Option.getD_some, if_true, true_and, and_true, Nat.reduceAdd, Nat.reduceSub, reduceIte, Bool.false_eq_true, Bool.not_true, Bool.not_false]
    refine last ?_
    exact hp
  · rw [hN15]
    simp [vw_jk, at_0, at_1, at_2, at_3, at_4, ix_40, ix_41, ix_42, ix_43, boolsD_comp, intsD_comp, sh_int, sh_bool, sh_none, sh_str, ev_int, ev_bool, ev_str, ev_none, ev_ni, ev_in, uIfS, evT, ev, uRet, uRetO, uRetN, uDrop, uSet, uSetO, uMove, uFrz, uNext, uBreak, uCont, uApp, uIns, uPut, uPutA, uAug, uRaise, uVar, uC, uOp, uUn, uTru, uTst, uNot, uAnd, uOr, uAndV, uOrV, uNotV, uIf, uNil, uCons, argU, uTup, uLst, allD, onDs, onD, onT, onBool, oI, oIC, oAdd, oEq, oIsN, isN_none, isN_int, isN_bool, isN_str, isN_list, isN_tup, truD, oIx, uSl, uPart, uNoP, oSl, uCB, oLen, oList, oTuple, oInt, oAbs, oAll, oAny, oSum, onB, onI, uIs, uIs2, isT, uCall, uCallP, pick, vw, vw1, okU, okX, nolU, nol, nols, startU, kOf, kQ, kT, onL, uSeqI, uRng1, uRng2, rOk, uEnum, uRep, uTupRev, uYes, ugN, ugT2, wipeU, setU, uIfQ, uRetQ, uSetQ, uPutQ, ixC, uPar, uAsgT, uChain, uCall0, sizeLine_eq, oMax2, oSortI, oStrI, oIsB, szD, List.map_cons, List.map_nil, List.length_cons, List.length_nil, List.replicate, List.cons_append, List.nil_append, List.getElem?_cons_zero, List.getElem?_cons_succ, List.set_cons_zero, List.set_cons_succ, Option.map_some, Option.map_none, List.getD, Option.getD_some, if_true, true_and, and_true, Nat.reduceAdd, Nat.reduceSub, reduceIte, Bool.false_eq_true, Bool.not_true, Bool.not_false]
    refine ref_lcm hf (no_b1 hy1) ?_
    simp [vw_jk, at_0, at_1, at_2, at_3, at_4, ix_40, ix_41, ix_42, ix_43, boolsD_comp, intsD_comp, sh_int, sh_bool, sh_none, sh_str, ev_int, ev_bool, ev_str, ev_none, ev_ni, ev_in, uIfS, evT, ev, uRet, uRetO, uRetN, uDrop, uSet, uSetO, uMove, uFrz, uNext, uBreak, uCont, uApp, uIns, uPut, uPutA, uAug, uRaise, uVar, uC, uOp, uUn, uTru, uTst, uNot, uAnd, uOr, uAndV, uOrV, uNotV, uIf, uNil, uCons, argU, uTup, uLst, allD, onDs, onD, onT, onBool, oI, oIC, oAdd, oEq, oIsN, isN_none, isN_int, isN_bool, isN_str, isN_list, isN_tup, truD, oIx, uSl, uPart, uNoP, oSl, uCB, oLen, oList, oTuple, oInt, oAbs, oAll, oAny, oSum, onB, onI, uIs, uIs2, isT, uCall, uCallP, pick, vw, vw1, okU, okX, nolU, nol, nols, startU, kOf, kQ, kT, onL, uSeqI, uRng1, uRng2, rOk, uEnum, uRep, uTupRev, uYes, ugN, ugT2, wipeU, setU, uIfQ, uRetQ, uSetQ, uPutQ, ixC, uPar, uAsgT, uChain, uCall0, sizeLine_eq, oMax2, oSortI, oStrI, oIsB, szD, List.map_cons, List.map_nil, List.length_cons, List.length_nil, List.replicate, List.cons_append, List.nil_append, List.getElem?_cons_zero, List.getElem?_cons_succ, List.set_cons_zero, List.set_cons_succ, Option.map_some, Option.map_none, List.getD, Option.getD_some, if_true, true_and, and_true, Nat.reduceAdd, Nat.reduceSub, reduceIte, Bool.false_eq_true, Bool.not_true, Bool.not_false]
    refine last ?_
    exact hp
  · rw [if_neg (by decide +kernel), if_neg (by decide +kernel), hN15]
    simp [vw_jk, at_0, at_1, at_2, at_3, at_4, ix_40, ix_41, ix_42, ix_43, boolsD_comp, intsD_comp, sh_int, sh_bool, sh_none, sh_str, ev_int, ev_bool, ev_str, ev_none, ev_ni, ev_in, uIfS, evT, ev, uRet, uRetO, uRetN, uDrop, uSet, uSetO, uMove, uFrz, uNext, uBreak, uCont, uApp, uIns, uPut, uPutA, uAug, uRaise, uVar, uC, uOp, uUn, uTru, uTst, uNot, uAnd, uOr, uAndV, uOrV, uNotV, uIf, uNil, uCons, argU, uTup, uLst, allD, onDs, onD, onT, onBool, oI, oIC, oAdd, oEq, oIsN, isN_none, isN_int, isN_bool, isN_str, isN_list, isN_tup, truD, oIx, uSl, uPart, uNoP, oSl, uCB, oLen, oList, oTuple, oInt, oAbs, oAll, oAny, oSum, onB, onI, uIs, uIs2, isT, uCall, uCallP, pick, vw, vw1, okU, okX, nolU, nol, nols, startU, kOf, kQ, kT, onL, uSeqI, uRng1, uRng2, rOk, uEnum, uRep, uTupRev, uYes, ugN, ugT2, wipeU, setU, uIfQ, uRetQ, uSetQ, uPutQ, ixC, uPar, uAsgT, uChain, uCall0, sizeLine_eq, oMax2, oSortI, oStrI, oIsB, szD, List.map_cons, List.map_nil, List.length_cons, List.length_nil, List.replicate, List.cons_append, List.nil_append, List.getElem?_cons_zero, List.getElem?_cons_succ, List.set_cons_zero, List.set_cons_succ, Option.map_some, Option.map_none, List.getD, Option.getD_some, if_true, true_and, and_true, Nat.reduceAdd, Nat.reduceSub, reduceIte, Bool.false_eq_true, Bool.not_true, Bool.not_false]
    refine ref_turns f0 hf (no_pl hy1) ?_
    simp [vw_jk, at_0, at_1, at_2, at_3, at_4, ix_40, ix_41, ix_42, ix_43, boolsD_comp, intsD_comp, sh_int, sh_bool, sh_none, sh_str, ev_int, ev_bool, ev_str, ev_none, ev_ni, ev_in, uIfS, evT, ev, uRet, uRetO, uRetN, uDrop, uSet, uSetO, uMove, uFrz, uNext, uBreak, uCont, uApp, uIns, uPut, uPutA, uAug, uRaise, uVar, uC, uOp, uUn, uTru, uTst, uNot, uAnd, uOr, uAndV, uOrV, uNotV, uIf, uNil, uCons, argU, uTup, uLst, allD, onDs, onD, onT, onBool, oI, oIC, oAdd, oEq, oIsN, isN_none, isN_int, isN_bool, isN_str, isN_list, isN_tup, truD, oIx, uSl, uPart, uNoP, oSl, uCB, oLen, oList, oTuple, oInt, oAbs, oAll, oAny, oSum, onB, onI, uIs, uIs2, isT, uCall, uCallP, pick, vw, vw1, okU, okX, nolU, nol, nols, startU, kOf, kQ, kT, onL, uSeqI, uRng1, uRng2, rOk, uEnum, uRep, uTupRev, uYes, ugN, ugT2, wipeU, setU, uIfQ, uRetQ, uSetQ, uPutQ, ixC, uPar, uAsgT, uChain, uCall0, sizeLine_eq, oMax2, oSortI, oStrI, oIsB, szD, List.map_cons, List.map_nil, List.length_cons, List.length_nil, List.replicate, List.cons_append, List.nil_append, List.getElem?_cons_zero, List.getElem?_cons_succ, List.set_cons_zero, List.set_cons_succ, Option.map_some, Option.map_none, List.getD, Option.getD_some, if_true, true_and, and_true, Nat.reduceAdd, Nat.reduceSub, reduceIte, Bool.false_eq_true, Bool.not_true, Bool.not_false]
    refine last ?_
    exact hp
  · rw [if_neg (by decide +kernel), if_neg (by decide +kernel), hN15]
    simp [vw_jk, at_0, at_1, at_2, at_3, at_4, ix_40, ix_41, ix_42, ix_43, boolsD_comp, intsD_comp, sh_int, sh_bool, sh_none, sh_str, ev_int, ev_bool, ev_str, ev_none, ev_ni, ev_in, uIfS, evT, ev, uRet, uRetO, uRetN, uDrop, uSet, uSetO, uMove, uFrz, uNext, uBreak, uCont, uApp, uIns, uPut, uPutA, uAug, uRaise, uVar, uC, uOp, uUn, uTru, uTst, uNot, uAnd, uOr, uAndV, uOrV, uNotV, uIf, uNil, uCons, argU, uTup, uLst, allD, onDs, onD, onT, onBool, oI, oIC, oAdd, oEq, oIsN, isN_none, isN_int, isN_bool, isN_str, isN_list, isN_tup, truD, oIx, uSl, uPart, uNoP, oSl, uCB, oLen, oList, oTuple, oInt, oAbs, oAll, oAny, oSum, onB, onI, uIs, uIs2, isT, uCall, uCallP, pick, vw, vw1, okU, okX, nolU, nol, nols, startU, kOf, kQ, kT, onL, uSeqI, uRng1, uRng2, rOk, uEnum, uRep, uTupRev, uYes, ugN, ugT2, wipeU, setU, uIfQ, uRetQ, uSetQ, uPutQ, ixC, uPar, uAsgT, uChain, uCall0, sizeLine_eq, oMax2, oSortI, oStrI, oIsB, szD, List.map_cons, List.map_nil, List.length_cons, List.length_nil, List.replicate, List.cons_append, List.nil_append, List.getElem?_cons_zero, List.getElem?_cons_succ, List.set_cons_zero, List.set_cons_succ, Option.map_some, Option.map_none, List.getD, Option.getD_some, if_true, true_and, and_true, Nat.reduceAdd, Nat.reduceSub, reduceIte, Bool.false_eq_true, Bool.not_true, Bool.not_false]
    refine ref_inverse f0 hf (no_pl hy1) ?_
    simp [vw_jk, at_0, at_1, at_2, at_3, at_4, ix_40, ix_41, ix_42, ix_43, boolsD_comp, intsD_comp, sh_int, sh_bool, sh_none, sh_str, ev_int, ev_bool, ev_str, ev_none, ev_ni, ev_in, uIfS, evT, ev, uRet, uRetO, uRetN, uDrop, uSet, uSetO, uMove, uFrz, uNext, uBreak, uCont, uApp, uIns, uPut, uPutA, uAug, uRaise, uVar, uC, uOp, uUn, uTru, uTst, uNot, uAnd, uOr, uAndV, uOrV, uNotV, uIf, uNil, uCons, argU, uTup, uLst, allD, onDs, onD, onT, onBool, oI, oIC, oAdd, oEq, oIsN, isN_none, isN_int, isN_bool, isN_str, isN_list, isN_tup, truD, oIx, uSl, uPart, uNoP, oSl, uCB, oLen, oList, oTuple, oInt, oAbs, oAll, oAny, oSum, onB, onI, uIs, uIs2, isT, uCall, uCallP, pick, vw, vw1, okU, okX, nolU, nol, nols, startU, kOf, kQ, kT, onL, uSeqI, uRng1, uRng2, rOk, uEnum, uRep, uTupRev, uYes, ugN, ugT2, wipeU, setU, uIfQ, uRetQ, uSetQ, uPutQ, ixC, uPar, uAsgT, uChain, uCall0, sizeLine_eq, oMax2, oSortI, oStrI, oIsB, szD, List.map_cons, List.map_nil, List.length_cons, List.length_nil, List.replicate, List.cons_append, List.nil_append, List.getElem?_cons_zero, List.getElem?_cons_succ, List.set_cons_zero, List.set_cons_succ, Option.map_some, Option.map_none, List.getD, Option.getD_some, if_true, true_and, and_true, Nat.reduceAdd, Nat.reduceSub, reduceIte, Bool.false_eq_true, Bool.not_true, Bool.not_false]
    refine last ?_
    exact hp
theorem sc__law_small : FnScope ["_law_src", "_law_lap", "_law_wide", "_law_step", "_law_turns", "_law_back", "_law_k", "_law_got", "_law_other_one", "_law_share", "_law_shared", "_law_odd_here"] ["_law_src", "_law_lap"] (defScope s__law_small) := ⟨rfl, rfl, rfl, by decide +kernel, rfl, by decide +kernel, by decide +kernel⟩
def fn__law_small (K : Fr) : Fn := fun as P _ => ∃ lap : Int, as = [.hold HVk, .d (.int lap)] ∧ P (.d (.bool true))
/-- the least number of times that comes back to 0 -/
theorem turns_dvd {w st k : Nat} (h0 : 0 < w) : w ∣ k * st ↔ w / Nat.gcd st w ∣ k := by
  have hg : 0 < Nat.gcd st w := Nat.gcd_pos_of_pos_right st h0
  obtain ⟨a, ha⟩ := Nat.gcd_dvd_left st w
  obtain ⟨b, hb⟩ := Nat.gcd_dvd_right st w
  have e1 : w / Nat.gcd st w = b := Nat.div_eq_of_eq_mul_right hg hb
  have e2 : st / Nat.gcd st w = a := Nat.div_eq_of_eq_mul_right hg ha
  have cop : Nat.Coprime a b := by
    have := Nat.coprime_div_gcd_div_gcd hg
    rw [e1, e2] at this; exact this
  rw [e1]
  generalize Nat.gcd st w = g at *
  rw [ha, hb]
  constructor
  · intro h
    rw [Nat.mul_left_comm] at h
    have := Nat.dvd_of_mul_dvd_mul_left hg h
    exact Nat.Coprime.dvd_of_dvd_mul_right cop.symm this
  · rintro ⟨c, rfl⟩
    exact ⟨c * a, by simp only [Nat.mul_comm, Nat.mul_left_comm]⟩
theorem turns_pos {w st : Nat} (h0 : 0 < w) : 0 < w / Nat.gcd st w := Nat.div_pos (Nat.gcd_le_right st h0) (Nat.gcd_pos_of_pos_right st h0)
theorem turns_found {w st k : Nat} (h0 : 0 < w) (h1 : 1 ≤ k) (hk : ∀ j, 1 ≤ j → j < k → ¬ w ∣ j * st) (hd : w ∣ k * st) : k = w / Nat.gcd st w := by
  have hp := turns_pos (st := st) h0
  have a := Nat.le_of_dvd h1 ((turns_dvd h0).mp hd)
  rcases Nat.lt_or_ge (w / Nat.gcd st w) k with z | z
  · exact absurd ((turns_dvd h0).mpr (Nat.dvd_refl _)) (hk _ hp z)
  · omega
def backP (w st k : Nat) : Bool := decide (((k * st : Int) - 1) % w = 0)
theorem backP_iff {w st k : Nat} : backP w st k = true ↔ ((k : Int) * st) % w = 1 % w := by
  unfold backP
  rw [decide_eq_true_eq, Int.emod_eq_emod_iff_emod_sub_eq_zero]
def backL (w st : Nat) : List Nat := (List.range w).filter (backP w st)
theorem back_none {w st : Nat} (h : Nat.gcd st w ≠ 1) (h0 : 0 < w) : backL w st = [] := by
  unfold backL
  rw [List.filter_eq_nil_iff]
  intro k _ hk
  rw [backP_iff] at hk
  have hg : 0 < Nat.gcd st w := Nat.gcd_pos_of_pos_right st h0
  exact inv_none (g := (Nat.gcd st w : Nat)) (by omega) (Int.natCast_dvd_natCast.mpr (Nat.gcd_dvd_right st w)) (Int.natCast_dvd_natCast.mpr (Nat.gcd_dvd_left st w)) hk
theorem back_some {w st : Nat} {r : Int} (r0 : 0 ≤ r) (r1 : r < w) (h : (r * st) % w = 1 % w) : ∃ l, backL w st = r.toNat :: l := by
  have hm : r.toNat ∈ backL w st := by
    unfold backL
    rw [List.mem_filter]
    exact ⟨List.mem_range.mpr (by omega), by rw [backP_iff, Int.toNat_of_nonneg r0]; exact h⟩
  cases hb : backL w st with
  | nil => rw [hb] at hm; cases hm
  | cons x l =>
    have hx : x ∈ backL w st := by rw [hb]; exact .head _
    unfold backL at hx
    rw [List.mem_filter, backP_iff] at hx
    have := List.mem_range.mp hx.1
    have := inv_uniq (p := st) (Int.natCast_nonneg x) (by omega) r0 r1 hx.2 h
    exact ⟨l, by rw [← this]; rfl⟩
def gBack (w st : Nat) : D → List D
  | .int z => if (z * st - 1) % w = 0 then [.int z] else []
  | _ => []
theorem gBack_eq (w st : Nat) : (rngD 0 w).flatMap (gBack w st) = natD (backL w st) := by
  rw [rngD_flat]
  unfold backL natD
  rw [← flat_if]
  simp only [backP, decide_eq_true_eq]
  rfl
def gSh (w o : Nat) : D → List D
  | .int z => if (z * o) % w = 0 then [.int (z * o)] else []
  | _ => []
theorem gSh_eq (w o : Nat) : (rngD 1 w).flatMap (gSh w o) = natD ((up 1 w).filter (fun k => decide ((k * o) % w = 0)) |>.map (· * o)) := by
  unfold rngD natD up
  rw [List.flatMap_map, List.map_map, ← flat_if, List.flatMap_map]
  congr 1
  funext i
  show gSh w o (.int (1 + i)) = _
  unfold gSh
  have e : ((1 : Int) + (i : Nat)) * o = (((i + 1) * o : Nat) : Int) := by rw [Int.natCast_mul]; congr 1; omega
  simp only [e]
  have e2 : ((((i + 1) * o : Nat) : Int) % w = 0) ↔ ((i + 1) * o) % w = 0 := by rw [← Int.natCast_emod]; omega
  simp only [e2, decide_eq_true_eq, Function.comp]
def shP (w o k : Nat) : Bool := decide (w ∣ k * o)
def shL (w o : Nat) : List Nat := ((up 1 w).filter (shP w o)).map (· * o)
theorem sh_head {w o : Nat} (h0 : 0 < w) : ∃ l, shL w o = (o / Nat.gcd o w * w) :: l := by
  have hp := turns_pos (st := o) h0
  have hle : w / Nat.gcd o w ≤ w := Nat.div_le_self _ _
  have hm : w / Nat.gcd o w ∈ (up 1 w).filter (shP w o) := by
    rw [List.mem_filter, mem_up]
    exact ⟨by omega, by unfold shP; rw [decide_eq_true_eq]; exact (turns_dvd h0).mpr (Nat.dvd_refl _)⟩
  unfold shL
  have hpw := (up_lt 1 w).filter (shP w o)
  cases hb : (up 1 w).filter (shP w o) with
  | nil => rw [hb] at hm; cases hm
  | cons x l =>
    rw [hb] at hm hpw
    have hx : x ∈ (up 1 w).filter (shP w o) := by rw [hb]; exact .head _
    rw [List.mem_filter, mem_up] at hx
    unfold shP at hx
    rw [decide_eq_true_eq] at hx
    have h2 := Nat.le_of_dvd (by omega) ((turns_dvd h0).mp hx.2)
    have h3 : x ≤ w / Nat.gcd o w := by
      rcases List.mem_cons.mp hm with z | z
      · omega
      · have := (List.pairwise_cons.mp hpw).1 _ z
        omega
    have h4 : x = w / Nat.gcd o w := by omega
    refine ⟨l.map (· * o), ?_⟩
    rw [List.map_cons, h4]
    congr 1
    have hg : 0 < Nat.gcd o w := Nat.gcd_pos_of_pos_right o h0
    obtain ⟨a, ha⟩ := Nat.gcd_dvd_left o w
    obtain ⟨b, hb⟩ := Nat.gcd_dvd_right o w
    have e1 : w / Nat.gcd o w = b := Nat.div_eq_of_eq_mul_right hg hb
    have e2 : o / Nat.gcd o w = a := Nat.div_eq_of_eq_mul_right hg ha
    rw [e1, e2]
    generalize Nat.gcd o w = g at *
    rw [ha, hb]
    simp only [Nat.mul_comm, Nat.mul_left_comm]
theorem gSh_sh (w o : Nat) : (rngD 1 w).flatMap (gSh w o) = natD (shL w o) := by
  rw [gSh_eq]
  unfold shL
  congr 2
  refine List.filter_congr fun k _ => ?_
  unfold shP
  exact decide_eq_decide.mpr (Nat.dvd_iff_mod_eq_zero).symm
theorem sh_natD (l : List Nat) : SeqAt.shaped (.list (natD l)) = true := sh_listOf (fun x hx => by
  obtain ⟨n, _, rfl⟩ := List.mem_map.mp hx; rfl) fun x hx => by
  obtain ⟨n, _, rfl⟩ := List.mem_map.mp hx; exact Nat.zero_le _
theorem at_head {a : Nat} {l : List Nat} : atI (natD (a :: l)) 0 = some (.int a) := at_0
theorem natD_cons {a : Nat} {l : List Nat} : natD (a :: l) = .int a :: natD l := rfl
theorem has__law_small (T : Tk P K mg) {fd__law_asked : FuncData} (h__law_asked : Has P w K mg base 6 "_law_asked" s__law_asked ["_law_name", "_law_low", "_law_high", "_law_lap"] (fn__law_asked K) fd__law_asked) {fd__law_common : FuncData} (h__law_common : Has P w K mg base 1 "_law_common" s__law_common ["_law_low", "_law_high"] fn__law_common fd__law_common) {fd__law_draw : FuncData} (h__law_draw : Has P w K mg base 1 "_law_draw" s__law_draw ["_law_src", "_law_width"] fn__law_draw fd__law_draw) {fd__law_is : FuncData} (h__law_is : Has P w K mg base 2 "_law_is" s__law_is ["_law_got", "_law_due"] fn__law_is fd__law_is) {fd_gcd_of : FuncData} (h_gcd_of : Has P w K mg base 4 "gcd_of" s_gcd_of ["many", "other"] (fn_gcd_of K) fd_gcd_of) {fd_lcm_of : FuncData} (h_lcm_of : Has P w K mg base 5 "lcm_of" s_lcm_of ["many", "other"] (fn_lcm_of K) fd_lcm_of) {fd_inverse_of : FuncData} (h_inverse_of : Has P w K mg base 4 "inverse_of" s_inverse_of ["wheel", "place"] (fn_inverse_of K) fd_inverse_of) {fd_turns_of : FuncData} (h_turns_of : Has P w K mg base 5 "turns_of" s_turns_of ["wheel", "place"] (fn_turns_of K) fd_turns_of) {fd__law_refused : FuncData} (h__law_refused : Has P w K mg base 7 "_law_refused" s__law_refused ["_law_name", "_law_low", "_law_high", "_law_lap", "_law_due"] (fn__law_refused K) fd__law_refused) : ∃ fd, Has P w K mg base 8 "_law_small" s__law_small ["_law_src", "_law_lap"] (fn__law_small K) fd := by
  obtain ⟨fd, F⟩ := T.f__law_small
  have hb := F.binds (ps := ["_law_src", "_law_lap"]) fun _ _ _ _ _ _ us hl => match us, hl with | [_, _], _ => rfl
  refine ⟨fd, T.g__law_small, F.kp, F, hb, fnD F sc__law_small (by decide) fun cdv A outer s H E hr => ⟨_, _, (dss_cons (ds_set false 2 (de_op (do_addk (KK := K)) de_int (de_own h__law_draw ⟨rfl, rfl, rfl, rfl, rfl⟩ (hr.mono (by decide)) rfl airD (da_cons (dv 0) (da_cons de_int da_nil)))) sc__law_small.nd)
    (dss_cons (ds_if false (dt_cmp (do_eqk (KK := K) hr.units) (de_own h__law_draw ⟨rfl, rfl, rfl, rfl, rfl⟩ (hr.mono (by decide)) rfl airD (da_cons (dv 0) (da_cons de_int da_nil))) de_int) (dss_one (ds_set false 2 (de_op (do_addk (KK := K)) de_int (de_own h__law_draw ⟨rfl, rfl, rfl, rfl, rfl⟩ (hr.mono (by decide)) rfl airD (da_cons (dv 0) (da_cons de_int da_nil)))) sc__law_small.nd)) dss_nil)
    (dss_cons (ds_set false 3 (de_op do_mod (de_callTy dc_int (by rfl) T.n_int bt_int (da_cons (de_own h__law_draw ⟨rfl, rfl, rfl, rfl, rfl⟩ (hr.mono (by decide)) rfl airD (da_cons (dv 0) (da_cons de_int da_nil))) da_nil)) (dv 2)) sc__law_small.nd)
    (dss_cons (ds_set false 4 de_int sc__law_small.nd)
    (dss_cons (ds_while false poD (DW.dt (dw_and (dt_cmp do_lt (dv 4) (dv 2)) (dw_and1 (dt_cmp (do_nek (KK := K) hr.units) (de_op do_mod (de_callTy dc_int (by rfl) T.n_int bt_int (da_cons (de_op do_mul (dv 4) (dv 3)) da_nil)) (dv 2)) de_int)))) (dss_one (ds_set false 4 (de_op (do_addk (KK := K)) (dv 4) de_int) sc__law_small.nd)))
    (dss_cons (ds_if false (dt_not (dt_truk (KK := K) (de_own h__law_is ⟨rfl, rfl, rfl, rfl, rfl⟩ (hr.mono (by decide)) rfl airD (da_cons (de_own h__law_asked ⟨rfl, rfl, rfl, rfl, rfl⟩ (hr.mono (by decide)) rfl airD (da_cons de_str (da_cons (dv 2) (da_cons (dv 3) (da_cons (dv 1) da_nil))))) (da_cons (dv 4) da_nil))))) (dss_one (ds_ret false de_bl)) dss_nil)
    (dss_cons (ds_setLc (i := 5) false rfl sc__law_small.nd rfl rfl rfl (own := [("_law_k", 6)]) (di_rng1 (dv 2) rfl T.n_range) (blk_of (by kernel_rfl)) (fun _ _ _ _ _ => (dg_name 6 sc__law_small.nd)) (fun _ _ _ _ _ => (dts_one (dt_cmp (do_eqk (KK := K) hr.units) (de_op do_mod (de_callTy dc_int (by rfl) T.n_int bt_int (da_cons (de_op do_sub (de_op do_mul (dv 6) (dv 3)) de_int) da_nil)) (dv 2)) de_int))) (fun _ _ _ _ _ => (dv 6)))
    (dss_cons (ds_set false 7 (de_own h__law_asked ⟨rfl, rfl, rfl, rfl, rfl⟩ (hr.mono (by decide)) rfl airD (da_cons de_str (da_cons (dv 2) (da_cons (dv 3) (da_cons (de_op do_sub de_int (dv 1)) da_nil))))) sc__law_small.nd)
    (dss_cons (ds_if false (dt_cmp (do_eqk (KK := K) hr.units) (dv 5) (de_lst da_nil)) (dss_one (ds_if false (dt_cmp do_notN (dv 7) de_non) (dss_one (ds_ret false de_bl)) dss_nil)) (dss_one (ds_if false (dt_not (dt_truk (KK := K) (de_own h__law_is ⟨rfl, rfl, rfl, rfl, rfl⟩ (hr.mono (by decide)) rfl airD (da_cons (dv 7) (da_cons (de_ixk (KK := K) (dv 5) de_int) da_nil))))) (dss_one (ds_ret false de_bl)) dss_nil)))
    (dss_cons (ds_set false 8 (de_op (do_addk (KK := K)) de_int (de_own h__law_draw ⟨rfl, rfl, rfl, rfl, rfl⟩ (hr.mono (by decide)) rfl airD (da_cons (dv 0) (da_cons de_int da_nil)))) sc__law_small.nd)
    (dss_cons (ds_set false 9 (de_own h__law_common ⟨rfl, rfl, rfl, rfl, rfl⟩ (hr.mono (by decide)) rfl airD (da_cons (dv 2) (da_cons (dv 8) da_nil))) sc__law_small.nd)
    (dss_cons (ds_if false (dt_not (dt_truk (KK := K) (de_own h__law_is ⟨rfl, rfl, rfl, rfl, rfl⟩ (hr.mono (by decide)) rfl airD (da_cons (de_own h_gcd_of ⟨rfl, rfl, rfl, rfl, rfl⟩ (hr.mono (by decide)) rfl airD (da_cons (dv 2) (da_cons (dv 8) da_nil))) (da_cons (dv 9) da_nil))))) (dss_one (ds_ret false de_bl)) dss_nil)
    (dss_cons (ds_setLc (i := 10) false rfl sc__law_small.nd rfl rfl rfl (own := [("_law_k", 6)]) (di_rng2 de_int (de_op (do_addk (KK := K)) (dv 2) de_int) rfl T.n_range) (blk_of (by kernel_rfl)) (fun _ _ _ _ _ => (dg_name 6 sc__law_small.nd)) (fun _ _ _ _ _ => (dts_one (dt_cmp (do_eqk (KK := K) hr.units) (de_op do_mod (de_callTy dc_int (by rfl) T.n_int bt_int (da_cons (de_op do_mul (dv 6) (dv 8)) da_nil)) (dv 2)) de_int))) (fun _ _ _ _ _ => (de_op do_mul (dv 6) (dv 8))))
    (dss_cons (ds_if false (dt_not (dt_truk (KK := K) (de_own h__law_is ⟨rfl, rfl, rfl, rfl, rfl⟩ (hr.mono (by decide)) rfl airD (da_cons (de_own h_lcm_of ⟨rfl, rfl, rfl, rfl, rfl⟩ (hr.mono (by decide)) rfl airD (da_cons (dv 8) (da_cons (dv 2) da_nil))) (da_cons (de_ixk (KK := K) (dv 10) de_int) da_nil))))) (dss_one (ds_ret false de_bl)) dss_nil)
    (dss_cons (ds_for poD rfl (di_seqk (KK := K) (de_lst (da_cons (dv 2) (da_cons (de_op (do_addk (KK := K)) (dv 2) (dv 3)) (da_cons (de_op do_sub (de_un du_neg de_int) (dv 3)) (da_cons de_bl (da_cons (de_callTy dc_strI (by rfl) T.n_str bt_str (da_cons (dv 3) da_nil)) (da_cons (de_lst (da_cons (dv 3) da_nil)) da_nil)))))))) (dg_name 11 sc__law_small.nd) (dss_one (ds_if false (DW.dt (dw_or (dt_not (dt_truk (KK := K) (de_own h__law_refused ⟨rfl, rfl, rfl, rfl, rfl⟩ (hr.mono (by decide)) rfl airD (da_cons de_str (da_cons (dv 2) (da_cons (dv 11) (da_cons (dv 1) (da_cons de_str da_nil)))))))) (dw_or1 (dt_not (dt_truk (KK := K) (de_own h__law_refused ⟨rfl, rfl, rfl, rfl, rfl⟩ (hr.mono (by decide)) rfl airD (da_cons de_str (da_cons (dv 2) (da_cons (dv 11) (da_cons (dv 1) (da_cons de_str da_nil))))))))))) (dss_one (ds_ret false de_bl)) dss_nil)))
    (dss_one (ds_ret false (de_andk (KK := K) (de_own h__law_is ⟨rfl, rfl, rfl, rfl, rfl⟩ (hr.mono (by decide)) rfl airD (da_cons (de_own h_inverse_of ⟨rfl, rfl, rfl, rfl, rfl⟩ (hr.mono (by decide)) rfl airD (da_cons de_int (da_cons de_int da_nil))) (da_cons de_int da_nil))) (de_one (de_own h__law_is ⟨rfl, rfl, rfl, rfl, rfl⟩ (hr.mono (by decide)) rfl airD (da_cons (de_own h_turns_of ⟨rfl, rfl, rfl, rfl, rfl⟩ (hr.mono (by decide)) rfl airD (da_cons de_int (da_cons de_int da_nil))) (da_cons de_int da_nil)))))))))))))))))))))), ?_⟩⟩
  rintro as Q PX hl ⟨lap, rfl, hp⟩
  refine i_seq fun N hN => ?_
  simp [vw_jk, at_0, at_1, at_2, at_3, at_4, ix_40, ix_41, ix_42, ix_43, boolsD_comp, intsD_comp, sh_int, sh_bool, sh_none, sh_str, ev_int, ev_bool, ev_str, ev_none, ev_ni, ev_in, uIfS, evT, ev, uRet, uRetO, uRetN, uDrop, uSet, uSetO, uMove, uFrz, uNext, uBreak, uCont, uApp, uIns, uPut, uPutA, uAug, uRaise, uVar, uC, uOp, uUn, uTru, uTst, uNot, uAnd, uOr, uAndV, uOrV, uNotV, uIf, uNil, uCons, argU, uTup, uLst, allD, onDs, onD, onT, onBool, oI, oIC, oAdd, oEq, oIsN, isN_none, isN_int, isN_bool, isN_str, isN_list, isN_tup, truD, oIx, uSl, uPart, uNoP, oSl, uCB, oLen, oList, oTuple, oInt, oAbs, oAll, oAny, oSum, onB, onI, uIs, uIs2, isT, uCall, uCallP, pick, vw, vw1, okU, okX, nolU, nol, nols, startU, kOf, kQ, kT, onL, uSeqI, uRng1, uRng2, rOk, uEnum, uRep, uTupRev, uYes, ugN, ugT2, wipeU, setU, uIfQ, uRetQ, uSetQ, uPutQ, ixC, uPar, uAsgT, uChain, uCall0, sizeLine_eq, oMax2, oSortI, oStrI, oIsB, szD, List.map_cons, List.map_nil, List.length_cons, List.length_nil, List.replicate, List.cons_append, List.nil_append, List.getElem?_cons_zero, List.getElem?_cons_succ, List.set_cons_zero, List.set_cons_succ, Option.map_some, Option.map_none, List.getD, Option.getD_some, if_true, true_and, and_true, Nat.reduceAdd, Nat.reduceSub, reduceIte, Bool.false_eq_true, Bool.not_true, Bool.not_false]
  refine tkN 60 rfl (by decide) (by decide) fun r0 hr0 => ?_
  simp [vw_jk, at_0, at_1, at_2, at_3, at_4, ix_40, ix_41, ix_42, ix_43, boolsD_comp, intsD_comp, sh_int, sh_bool, sh_none, sh_str, ev_int, ev_bool, ev_str, ev_none, ev_ni, ev_in, uIfS, evT, ev, uRet, uRetO, uRetN, uDrop, uSet, uSetO, uMove, uFrz, uNext, uBreak, uCont, uApp, uIns, uPut, uPutA, uAug, uRaise, uVar, uC, uOp, uUn, uTru, uTst, uNot, uAnd, uOr, uAndV, uOrV, uNotV, uIf, uNil, uCons, argU, uTup, uLst, allD, onDs, onD, onT, onBool, oI, oIC, oAdd, oEq, oIsN, isN_none, isN_int, isN_bool, isN_str, isN_list, isN_tup, truD, oIx, uSl, uPart, uNoP, oSl, uCB, oLen, oList, oTuple, oInt, oAbs, oAll, oAny, oSum, onB, onI, uIs, uIs2, isT, uCall, uCallP, pick, vw, vw1, okU, okX, nolU, nol, nols, startU, kOf, kQ, kT, onL, uSeqI, uRng1, uRng2, rOk, uEnum, uRep, uTupRev, uYes, ugN, ugT2, wipeU, setU, uIfQ, uRetQ, uSetQ, uPutQ, ixC, uPar, uAsgT, uChain, uCall0, sizeLine_eq, oMax2, oSortI, oStrI, oIsB, szD, List.map_cons, List.map_nil, List.length_cons, List.length_nil, List.replicate, List.cons_append, List.nil_append, List.getElem?_cons_zero, List.getElem?_cons_succ, List.set_cons_zero, List.set_cons_succ, Option.map_some, Option.map_none, List.getD, Option.getD_some, if_true, true_and, and_true, Nat.reduceAdd, Nat.reduceSub, reduceIte, Bool.false_eq_true, Bool.not_true, Bool.not_false]
  rw [hN]
  refine i_cut (fun s' => ∃ w : Nat, s' = [some (.hold HVk), some (.d (.int lap)), some (.d (.int w)), none, none, none, none, none, none, none, none, none] ∧ 1 ≤ w ∧ w ≤ 120) ?_ ?_
  rotate_left
  · intro M hM
    simp [vw_jk, at_0, at_1, at_2, at_3, at_4, ix_40, ix_41, ix_42, ix_43, boolsD_comp, intsD_comp, sh_int, sh_bool, sh_none, sh_str, ev_int, ev_bool, ev_str, ev_none, ev_ni, ev_in, uIfS, evT, ev, uRet, uRetO, uRetN, uDrop, uSet, uSetO, uMove, uFrz, uNext, uBreak, uCont, uApp, uIns, uPut, uPutA, uAug, uRaise, uVar, uC, uOp, uUn, uTru, uTst, uNot, uAnd, uOr, uAndV, uOrV, uNotV, uIf, uNil, uCons, argU, uTup, uLst, allD, onDs, onD, onT, onBool, oI, oIC, oAdd, oEq, oIsN, isN_none, isN_int, isN_bool, isN_str, isN_list, isN_tup, truD, oIx, uSl, uPart, uNoP, oSl, uCB, oLen, oList, oTuple, oInt, oAbs, oAll, oAny, oSum, onB, onI, uIs, uIs2, isT, uCall, uCallP, pick, vw, vw1, okU, okX, nolU, nol, nols, startU, kOf, kQ, kT, onL, uSeqI, uRng1, uRng2, rOk, uEnum, uRep, uTupRev, uYes, ugN, ugT2, wipeU, setU, uIfQ, uRetQ, uSetQ, uPutQ, ixC, uPar, uAsgT, uChain, uCall0, sizeLine_eq, oMax2, oSortI, oStrI, oIsB, szD, List.map_cons, List.map_nil, List.length_cons, List.length_nil, List.replicate, List.cons_append, List.nil_append, List.getElem?_cons_zero, List.getElem?_cons_succ, List.set_cons_zero, List.set_cons_succ, Option.map_some, Option.map_none, List.getD, Option.getD_some, if_true, true_and, and_true, Nat.reduceAdd, Nat.reduceSub, reduceIte, Bool.false_eq_true, Bool.not_true, Bool.not_false]
    refine tkN 8 rfl (by decide) (by decide) fun q hq => ?_
    simp [vw_jk, at_0, at_1, at_2, at_3, at_4, ix_40, ix_41, ix_42, ix_43, boolsD_comp, intsD_comp, sh_int, sh_bool, sh_none, sh_str, ev_int, ev_bool, ev_str, ev_none, ev_ni, ev_in, uIfS, evT, ev, uRet, uRetO, uRetN, uDrop, uSet, uSetO, uMove, uFrz, uNext, uBreak, uCont, uApp, uIns, uPut, uPutA, uAug, uRaise, uVar, uC, uOp, uUn, uTru, uTst, uNot, uAnd, uOr, uAndV, uOrV, uNotV, uIf, uNil, uCons, argU, uTup, uLst, allD, onDs, onD, onT, onBool, oI, oIC, oAdd, oEq, oIsN, isN_none, isN_int, isN_bool, isN_str, isN_list, isN_tup, truD, oIx, uSl, uPart, uNoP, oSl, uCB, oLen, oList, oTuple, oInt, oAbs, oAll, oAny, oSum, onB, onI, uIs, uIs2, isT, uCall, uCallP, pick, vw, vw1, okU, okX, nolU, nol, nols, startU, kOf, kQ, kT, onL, uSeqI, uRng1, uRng2, rOk, uEnum, uRep, uTupRev, uYes, ugN, ugT2, wipeU, setU, uIfQ, uRetQ, uSetQ, uPutQ, ixC, uPar, uAsgT, uChain, uCall0, sizeLine_eq, oMax2, oSortI, oStrI, oIsB, szD, List.map_cons, List.map_nil, List.length_cons, List.length_nil, List.replicate, List.cons_append, List.nil_append, List.getElem?_cons_zero, List.getElem?_cons_succ, List.set_cons_zero, List.set_cons_succ, Option.map_some, Option.map_none, List.getD, Option.getD_some, if_true, true_and, and_true, Nat.reduceAdd, Nat.reduceSub, reduceIte, Bool.false_eq_true, Bool.not_true, Bool.not_false]
    split
    · refine tkN 120 rfl (by decide) (by decide) fun q2 hq2 => ?_
      simp [vw_jk, at_0, at_1, at_2, at_3, at_4, ix_40, ix_41, ix_42, ix_43, boolsD_comp, intsD_comp, sh_int, sh_bool, sh_none, sh_str, ev_int, ev_bool, ev_str, ev_none, ev_ni, ev_in, uIfS, evT, ev, uRet, uRetO, uRetN, uDrop, uSet, uSetO, uMove, uFrz, uNext, uBreak, uCont, uApp, uIns, uPut, uPutA, uAug, uRaise, uVar, uC, uOp, uUn, uTru, uTst, uNot, uAnd, uOr, uAndV, uOrV, uNotV, uIf, uNil, uCons, argU, uTup, uLst, allD, onDs, onD, onT, onBool, oI, oIC, oAdd, oEq, oIsN, isN_none, isN_int, isN_bool, isN_str, isN_list, isN_tup, truD, oIx, uSl, uPart, uNoP, oSl, uCB, oLen, oList, oTuple, oInt, oAbs, oAll, oAny, oSum, onB, onI, uIs, uIs2, isT, uCall, uCallP, pick, vw, vw1, okU, okX, nolU, nol, nols, startU, kOf, kQ, kT, onL, uSeqI, uRng1, uRng2, rOk, uEnum, uRep, uTupRev, uYes, ugN, ugT2, wipeU, setU, uIfQ, uRetQ, uSetQ, uPutQ, ixC, uPar, uAsgT, uChain, uCall0, sizeLine_eq, oMax2, oSortI, oStrI, oIsB, szD, List.map_cons, List.map_nil, List.length_cons, List.length_nil, List.replicate, List.cons_append, List.nil_append, List.getElem?_cons_zero, List.getElem?_cons_succ, List.set_cons_zero, List.set_cons_succ, Option.map_some, Option.map_none, List.getD, Option.getD_some, if_true, true_and, and_true, Nat.reduceAdd, Nat.reduceSub, reduceIte, Bool.false_eq_true, Bool.not_true, Bool.not_false]
      exact hM _ ⟨1 + q2, by simp, by omega, by omega⟩
    · exact hM _ ⟨1 + r0, by simp, by omega, by omega⟩
  rintro s' ⟨w, rfl, w0, w1⟩
  have w400 : w < 2 ^ 400 := by omega
  refine i_seq fun N1 hN1 => ?_
  simp [vw_jk, at_0, at_1, at_2, at_3, at_4, ix_40, ix_41, ix_42, ix_43, boolsD_comp, intsD_comp, sh_int, sh_bool, sh_none, sh_str, ev_int, ev_bool, ev_str, ev_none, ev_ni, ev_in, uIfS, evT, ev, uRet, uRetO, uRetN, uDrop, uSet, uSetO, uMove, uFrz, uNext, uBreak, uCont, uApp, uIns, uPut, uPutA, uAug, uRaise, uVar, uC, uOp, uUn, uTru, uTst, uNot, uAnd, uOr, uAndV, uOrV, uNotV, uIf, uNil, uCons, argU, uTup, uLst, allD, onDs, onD, onT, onBool, oI, oIC, oAdd, oEq, oIsN, isN_none, isN_int, isN_bool, isN_str, isN_list, isN_tup, truD, oIx, uSl, uPart, uNoP, oSl, uCB, oLen, oList, oTuple, oInt, oAbs, oAll, oAny, oSum, onB, onI, uIs, uIs2, isT, uCall, uCallP, pick, vw, vw1, okU, okX, nolU, nol, nols, startU, kOf, kQ, kT, onL, uSeqI, uRng1, uRng2, rOk, uEnum, uRep, uTupRev, uYes, ugN, ugT2, wipeU, setU, uIfQ, uRetQ, uSetQ, uPutQ, ixC, uPar, uAsgT, uChain, uCall0, sizeLine_eq, oMax2, oSortI, oStrI, oIsB, szD, List.map_cons, List.map_nil, List.length_cons, List.length_nil, List.replicate, List.cons_append, List.nil_append, List.getElem?_cons_zero, List.getElem?_cons_succ, List.set_cons_zero, List.set_cons_succ, Option.map_some, Option.map_none, List.getD, Option.getD_some, if_true, true_and, and_true, Nat.reduceAdd, Nat.reduceSub, reduceIte, Bool.false_eq_true, Bool.not_true, Bool.not_false]
  refine tkN 5040 rfl (by decide) (by decide) fun st' hst => ?_
  simp [vw_jk, at_0, at_1, at_2, at_3, at_4, ix_40, ix_41, ix_42, ix_43, boolsD_comp, intsD_comp, sh_int, sh_bool, sh_none, sh_str, ev_int, ev_bool, ev_str, ev_none, ev_ni, ev_in, uIfS, evT, ev, uRet, uRetO, uRetN, uDrop, uSet, uSetO, uMove, uFrz, uNext, uBreak, uCont, uApp, uIns, uPut, uPutA, uAug, uRaise, uVar, uC, uOp, uUn, uTru, uTst, uNot, uAnd, uOr, uAndV, uOrV, uNotV, uIf, uNil, uCons, argU, uTup, uLst, allD, onDs, onD, onT, onBool, oI, oIC, oAdd, oEq, oIsN, isN_none, isN_int, isN_bool, isN_str, isN_list, isN_tup, truD, oIx, uSl, uPart, uNoP, oSl, uCB, oLen, oList, oTuple, oInt, oAbs, oAll, oAny, oSum, onB, onI, uIs, uIs2, isT, uCall, uCallP, pick, vw, vw1, okU, okX, nolU, nol, nols, startU, kOf, kQ, kT, onL, uSeqI, uRng1, uRng2, rOk, uEnum, uRep, uTupRev, uYes, ugN, ugT2, wipeU, setU, uIfQ, uRetQ, uSetQ, uPutQ, ixC, uPar, uAsgT, uChain, uCall0, sizeLine_eq, oMax2, oSortI, oStrI, oIsB, szD, List.map_cons, List.map_nil, List.length_cons, List.length_nil, List.replicate, List.cons_append, List.nil_append, List.getElem?_cons_zero, List.getElem?_cons_succ, List.set_cons_zero, List.set_cons_succ, Option.map_some, Option.map_none, List.getD, Option.getD_some, if_true, true_and, and_true, Nat.reduceAdd, Nat.reduceSub, reduceIte, Bool.false_eq_true, Bool.not_true, Bool.not_false]
  refine ⟨by omega, ?_⟩
  obtain ⟨st, est, st1⟩ : ∃ st : Nat, (st' : Int) % w = st ∧ st < w := ⟨st' % w, by simp, Nat.mod_lt _ w0⟩
  rw [est, hN1]
  refine i_seq fun N2 hN2 => ?_
  simp [vw_jk, at_0, at_1, at_2, at_3, at_4, ix_40, ix_41, ix_42, ix_43, boolsD_comp, intsD_comp, sh_int, sh_bool, sh_none, sh_str, ev_int, ev_bool, ev_str, ev_none, ev_ni, ev_in, uIfS, evT, ev, uRet, uRetO, uRetN, uDrop, uSet, uSetO, uMove, uFrz, uNext, uBreak, uCont, uApp, uIns, uPut, uPutA, uAug, uRaise, uVar, uC, uOp, uUn, uTru, uTst, uNot, uAnd, uOr, uAndV, uOrV, uNotV, uIf, uNil, uCons, argU, uTup, uLst, allD, onDs, onD, onT, onBool, oI, oIC, oAdd, oEq, oIsN, isN_none, isN_int, isN_bool, isN_str, isN_list, isN_tup, truD, oIx, uSl, uPart, uNoP, oSl, uCB, oLen, oList, oTuple, oInt, oAbs, oAll, oAny, oSum, onB, onI, uIs, uIs2, isT, uCall, uCallP, pick, vw, vw1, okU, okX, nolU, nol, nols, startU, kOf, kQ, kT, onL, uSeqI, uRng1, uRng2, rOk, uEnum, uRep, uTupRev, uYes, ugN, ugT2, wipeU, setU, uIfQ, uRetQ, uSetQ, uPutQ, ixC, uPar, uAsgT, uChain, uCall0, sizeLine_eq, oMax2, oSortI, oStrI, oIsB, szD, List.map_cons, List.map_nil, List.length_cons, List.length_nil, List.replicate, List.cons_append, List.nil_append, List.getElem?_cons_zero, List.getElem?_cons_succ, List.set_cons_zero, List.set_cons_succ, Option.map_some, Option.map_none, List.getD, Option.getD_some, if_true, true_and, and_true, Nat.reduceAdd, Nat.reduceSub, reduceIte, Bool.false_eq_true, Bool.not_true, Bool.not_false]
  rw [hN2]
  -- the turns by trying
  refine i_seq fun N3 hN3 => ?_
  have hg0 : 0 < Nat.gcd st w := Nat.gcd_pos_of_pos_right st w0
  refine i_while (fun m s' => ∃ k : Nat, m + k = w ∧ s' = [some (.hold HVk), some (.d (.int lap)), some (.d (.int w)), some (.d (.int st)), some (.d (.int k)), none, none, none, none, none, none, none] ∧ 1 ≤ k ∧ ∀ j, 1 ≤ j → j < k → ¬ w ∣ j * st) (w - 1) ⟨1, by omega, rfl, by omega, fun j j1 j2 => by omega⟩ ?_
  rintro m s' ⟨k, hm, rfl, k1, hk⟩ NX hNX
  simp [vw_jk, at_0, at_1, at_2, at_3, at_4, ix_40, ix_41, ix_42, ix_43, boolsD_comp, intsD_comp, sh_int, sh_bool, sh_none, sh_str, ev_int, ev_bool, ev_str, ev_none, ev_ni, ev_in, uIfS, evT, ev, uRet, uRetO, uRetN, uDrop, uSet, uSetO, uMove, uFrz, uNext, uBreak, uCont, uApp, uIns, uPut, uPutA, uAug, uRaise, uVar, uC, uOp, uUn, uTru, uTst, uNot, uAnd, uOr, uAndV, uOrV, uNotV, uIf, uNil, uCons, argU, uTup, uLst, allD, onDs, onD, onT, onBool, oI, oIC, oAdd, oEq, oIsN, isN_none, isN_int, isN_bool, isN_str, isN_list, isN_tup, truD, oIx, uSl, uPart, uNoP, oSl, uCB, oLen, oList, oTuple, oInt, oAbs, oAll, oAny, oSum, onB, onI, uIs, uIs2, isT, uCall, uCallP, pick, vw, vw1, okU, okX, nolU, nol, nols, startU, kOf, kQ, kT, onL, uSeqI, uRng1, uRng2, rOk, uEnum, uRep, uTupRev, uYes, ugN, ugT2, wipeU, setU, uIfQ, uRetQ, uSetQ, uPutQ, ixC, uPar, uAsgT, uChain, uCall0, sizeLine_eq, oMax2, oSortI, oStrI, oIsB, szD, List.map_cons, List.map_nil, List.length_cons, List.length_nil, List.replicate, List.cons_append, List.nil_append, List.getElem?_cons_zero, List.getElem?_cons_succ, List.set_cons_zero, List.set_cons_succ, Option.map_some, Option.map_none, List.getD, Option.getD_some, if_true, true_and, and_true, Nat.reduceAdd, Nat.reduceSub, reduceIte, Bool.false_eq_true, Bool.not_true, Bool.not_false]
  have ed : ((k : Int) * st % w = 0) ↔ w ∣ k * st := by
    rw [← Int.natCast_mul, ← Int.natCast_emod, Nat.dvd_iff_mod_eq_zero]; omega
  simp only [ed]
  have next : (w ∣ k * st) → N3 [some (.hold HVk), some (.d (.int lap)), some (.d (.int w)), some (.d (.int st)), some (.d (.int k)), none, none, none, none, none, none, none] := fun hd => by
    have ek := turns_found w0 k1 hk hd
    clear hNX NX
    rw [hN3]
    refine i_seq fun N4 hN4 => ?_
    simp [vw_jk, at_0, at_1, at_2, at_3, at_4, ix_40, ix_41, ix_42, ix_43, boolsD_comp, intsD_comp, sh_int, sh_bool, sh_none, sh_str, ev_int, ev_bool, ev_str, ev_none, ev_ni, ev_in, uIfS, evT, ev, uRet, uRetO, uRetN, uDrop, uSet, uSetO, uMove, uFrz, uNext, uBreak, uCont, uApp, uIns, uPut, uPutA, uAug, uRaise, uVar, uC, uOp, uUn, uTru, uTst, uNot, uAnd, uOr, uAndV, uOrV, uNotV, uIf, uNil, uCons, argU, uTup, uLst, allD, onDs, onD, onT, onBool, oI, oIC, oAdd, oEq, oIsN, isN_none, isN_int, isN_bool, isN_str, isN_list, isN_tup, truD, oIx, uSl, uPart, uNoP, oSl, uCB, oLen, oList, oTuple, oInt, oAbs, oAll, oAny, oSum, onB, onI, uIs, uIs2, isT, uCall, uCallP, pick, vw, vw1, okU, okX, nolU, nol, nols, startU, kOf, kQ, kT, onL, uSeqI, uRng1, uRng2, rOk, uEnum, uRep, uTupRev, uYes, ugN, ugT2, wipeU, setU, uIfQ, uRetQ, uSetQ, uPutQ, ixC, uPar, uAsgT, uChain, uCall0, sizeLine_eq, oMax2, oSortI, oStrI, oIsB, szD, List.map_cons, List.map_nil, List.length_cons, List.length_nil, List.replicate, List.cons_append, List.nil_append, List.getElem?_cons_zero, List.getElem?_cons_succ, List.set_cons_zero, List.set_cons_succ, Option.map_some, Option.map_none, List.getD, Option.getD_some, if_true, true_and, and_true, Nat.reduceAdd, Nat.reduceSub, reduceIte, Bool.false_eq_true, Bool.not_true, Bool.not_false]
    refine ask_turns w0 w400 st1 ?_
    rw [← ek]
    simp [vw_jk, at_0, at_1, at_2, at_3, at_4, ix_40, ix_41, ix_42, ix_43, boolsD_comp, intsD_comp, sh_int, sh_bool, sh_none, sh_str, ev_int, ev_bool, ev_str, ev_none, ev_ni, ev_in, uIfS, evT, ev, uRet, uRetO, uRetN, uDrop, uSet, uSetO, uMove, uFrz, uNext, uBreak, uCont, uApp, uIns, uPut, uPutA, uAug, uRaise, uVar, uC, uOp, uUn, uTru, uTst, uNot, uAnd, uOr, uAndV, uOrV, uNotV, uIf, uNil, uCons, argU, uTup, uLst, allD, onDs, onD, onT, onBool, oI, oIC, oAdd, oEq, oIsN, isN_none, isN_int, isN_bool, isN_str, isN_list, isN_tup, truD, oIx, uSl, uPart, uNoP, oSl, uCB, oLen, oList, oTuple, oInt, oAbs, oAll, oAny, oSum, onB, onI, uIs, uIs2, isT, uCall, uCallP, pick, vw, vw1, okU, okX, nolU, nol, nols, startU, kOf, kQ, kT, onL, uSeqI, uRng1, uRng2, rOk, uEnum, uRep, uTupRev, uYes, ugN, ugT2, wipeU, setU, uIfQ, uRetQ, uSetQ, uPutQ, ixC, uPar, uAsgT, uChain, uCall0, sizeLine_eq, oMax2, oSortI, oStrI, oIsB, szD, List.map_cons, List.map_nil, List.length_cons, List.length_nil, List.replicate, List.cons_append, List.nil_append, List.getElem?_cons_zero, List.getElem?_cons_succ, List.set_cons_zero, List.set_cons_succ, Option.map_some, Option.map_none, List.getD, Option.getD_some, if_true, true_and, and_true, Nat.reduceAdd, Nat.reduceSub, reduceIte, Bool.false_eq_true, Bool.not_true, Bool.not_false, is_iff, eqI_self]
    rw [hN4]
    refine i_seq fun N5 hN5 => ?_
    simp [vw_jk, at_0, at_1, at_2, at_3, at_4, ix_40, ix_41, ix_42, ix_43, boolsD_comp, intsD_comp, sh_int, sh_bool, sh_none, sh_str, ev_int, ev_bool, ev_str, ev_none, ev_ni, ev_in, uIfS, evT, ev, uRet, uRetO, uRetN, uDrop, uSet, uSetO, uMove, uFrz, uNext, uBreak, uCont, uApp, uIns, uPut, uPutA, uAug, uRaise, uVar, uC, uOp, uUn, uTru, uTst, uNot, uAnd, uOr, uAndV, uOrV, uNotV, uIf, uNil, uCons, argU, uTup, uLst, allD, onDs, onD, onT, onBool, oI, oIC, oAdd, oEq, oIsN, isN_none, isN_int, isN_bool, isN_str, isN_list, isN_tup, truD, oIx, uSl, uPart, uNoP, oSl, uCB, oLen, oList, oTuple, oInt, oAbs, oAll, oAny, oSum, onB, onI, uIs, uIs2, isT, uCall, uCallP, pick, vw, vw1, okU, okX, nolU, nol, nols, startU, kOf, kQ, kT, onL, uSeqI, uRng1, uRng2, rOk, uEnum, uRep, uTupRev, uYes, ugN, ugT2, wipeU, setU, uIfQ, uRetQ, uSetQ, uPutQ, ixC, uPar, uAsgT, uChain, uCall0, sizeLine_eq, oMax2, oSortI, oStrI, oIsB, szD, List.map_cons, List.map_nil, List.length_cons, List.length_nil, List.replicate, List.cons_append, List.nil_append, List.getElem?_cons_zero, List.getElem?_cons_succ, List.set_cons_zero, List.set_cons_succ, Option.map_some, Option.map_none, List.getD, Option.getD_some, if_true, true_and, and_true, Nat.reduceAdd, Nat.reduceSub, reduceIte, Bool.false_eq_true, Bool.not_true, Bool.not_false]
    refine i_lc ?_
    simp [vw_jk, at_0, at_1, at_2, at_3, at_4, ix_40, ix_41, ix_42, ix_43, boolsD_comp, intsD_comp, sh_int, sh_bool, sh_none, sh_str, ev_int, ev_bool, ev_str, ev_none, ev_ni, ev_in, uIfS, evT, ev, uRet, uRetO, uRetN, uDrop, uSet, uSetO, uMove, uFrz, uNext, uBreak, uCont, uApp, uIns, uPut, uPutA, uAug, uRaise, uVar, uC, uOp, uUn, uTru, uTst, uNot, uAnd, uOr, uAndV, uOrV, uNotV, uIf, uNil, uCons, argU, uTup, uLst, allD, onDs, onD, onT, onBool, oI, oIC, oAdd, oEq, oIsN, isN_none, isN_int, isN_bool, isN_str, isN_list, isN_tup, truD, oIx, uSl, uPart, uNoP, oSl, uCB, oLen, oList, oTuple, oInt, oAbs, oAll, oAny, oSum, onB, onI, uIs, uIs2, isT, uCall, uCallP, pick, vw, vw1, okU, okX, nolU, nol, nols, startU, kOf, kQ, kT, onL, uSeqI, uRng1, uRng2, rOk, uEnum, uRep, uTupRev, uYes, ugN, ugT2, wipeU, setU, uIfQ, uRetQ, uSetQ, uPutQ, ixC, uPar, uAsgT, uChain, uCall0, sizeLine_eq, oMax2, oSortI, oStrI, oIsB, szD, List.map_cons, List.map_nil, List.length_cons, List.length_nil, List.replicate, List.cons_append, List.nil_append, List.getElem?_cons_zero, List.getElem?_cons_succ, List.set_cons_zero, List.set_cons_succ, Option.map_some, Option.map_none, List.getD, Option.getD_some, if_true, true_and, and_true, Nat.reduceAdd, Nat.reduceSub, reduceIte, Bool.false_eq_true, Bool.not_true, Bool.not_false]
    refine ⟨by omega, ?_⟩
    refine lc_fun (gBack w st) (by rw [rngD_len]; exact lt_line (by omega)) (fun i d e => ?_) ?_
    · obtain ⟨rfl, hi⟩ := get_rngD e
      refine ⟨_, rfl, by simp, fun acc J hJ => ?_⟩
      simp [vw_jk, at_0, at_1, at_2, at_3, at_4, ix_40, ix_41, ix_42, ix_43, boolsD_comp, intsD_comp, sh_int, sh_bool, sh_none, sh_str, ev_int, ev_bool, ev_str, ev_none, ev_ni, ev_in, uIfS, evT, ev, uRet, uRetO, uRetN, uDrop, uSet, uSetO, uMove, uFrz, uNext, uBreak, uCont, uApp, uIns, uPut, uPutA, uAug, uRaise, uVar, uC, uOp, uUn, uTru, uTst, uNot, uAnd, uOr, uAndV, uOrV, uNotV, uIf, uNil, uCons, argU, uTup, uLst, allD, onDs, onD, onT, onBool, oI, oIC, oAdd, oEq, oIsN, isN_none, isN_int, isN_bool, isN_str, isN_list, isN_tup, truD, oIx, uSl, uPart, uNoP, oSl, uCB, oLen, oList, oTuple, oInt, oAbs, oAll, oAny, oSum, onB, onI, uIs, uIs2, isT, uCall, uCallP, pick, vw, vw1, okU, okX, nolU, nol, nols, startU, kOf, kQ, kT, onL, uSeqI, uRng1, uRng2, rOk, uEnum, uRep, uTupRev, uYes, ugN, ugT2, wipeU, setU, uIfQ, uRetQ, uSetQ, uPutQ, ixC, uPar, uAsgT, uChain, uCall0, sizeLine_eq, oMax2, oSortI, oStrI, oIsB, szD, List.map_cons, List.map_nil, List.length_cons, List.length_nil, List.replicate, List.cons_append, List.nil_append, List.getElem?_cons_zero, List.getElem?_cons_succ, List.set_cons_zero, List.set_cons_succ, Option.map_some, Option.map_none, List.getD, Option.getD_some, if_true, true_and, and_true, Nat.reduceAdd, Nat.reduceSub, reduceIte, Bool.false_eq_true, Bool.not_true, Bool.not_false]
      refine ⟨mulC (by omega) (by omega), by omega, ?_⟩
      simp [gBack] at hJ
      split
      · next hz => rw [if_pos hz] at hJ; exact hJ
      · next hz => rw [if_neg hz] at hJ; simpa using hJ
    rw [gBack_eq]
    simp only [vw_jk, at_0, at_1, at_2, at_3, at_4, ix_40, ix_41, ix_42, ix_43, boolsD_comp, intsD_comp, sh_int, sh_bool, sh_none, sh_str, ev_int, ev_bool, ev_str, ev_none, ev_ni, ev_in, uIfS, evT, ev, uRet, uRetO, uRetN, uDrop, uSet, uSetO, uMove, uFrz, uNext, uBreak, uCont, uApp, uIns, uPut, uPutA, uAug, uRaise, uVar, uC, uOp, uUn, uTru, uTst, uNot, uAnd, uOr, uAndV, uOrV, uNotV, uIf, uNil, uCons, argU, uTup, uLst, allD, onDs, onD, onT, onBool, oI, oIC, oAdd, oEq, oIsN, isN_none, isN_int, isN_bool, isN_str, isN_list, isN_tup, truD, oIx, uSl, uPart, uNoP, oSl, uCB, oLen, oList, oTuple, oInt, oAbs, oAll, oAny, oSum, onB, onI, uIs, uIs2, isT, uCall, uCallP, pick, vw, vw1, okU, okX, nolU, nol, nols, startU, kOf, kQ, kT, onL, uSeqI, uRng1, uRng2, rOk, uEnum, uRep, uTupRev, uYes, ugN, ugT2, wipeU, setU, uIfQ, uRetQ, uSetQ, uPutQ, ixC, uPar, uAsgT, uChain, uCall0, sizeLine_eq, oMax2, oSortI, oStrI, oIsB, szD, List.map_cons, List.map_nil, List.length_cons, List.length_nil, List.replicate, List.cons_append, List.nil_append, List.getElem?_cons_zero, List.getElem?_cons_succ, List.set_cons_zero, List.set_cons_succ, Option.map_some, Option.map_none, List.getD, Option.getD_some, if_true, true_and, and_true, Nat.reduceAdd, Nat.reduceSub, reduceIte, Bool.false_eq_true, Bool.not_true, Bool.not_false]
    rw [hN5]
    refine i_cut (fun s' => ∃ x : D, s' = [some (.hold HVk), some (.d (.int lap)), some (.d (.int w)), some (.d (.int st)), some (.d (.int k)), some (.d (.list (natD (backL w st)))), none, some (.d x), none, none, none, none] ∧ ((backL w st = [] ∧ x = .none) ∨ ∃ (z : Nat) (l : List Nat), backL w st = z :: l ∧ x = .int z)) ?_ ?_
    rotate_left
    · intro M hM
      simp [vw_jk, at_0, at_1, at_2, at_3, at_4, ix_40, ix_41, ix_42, ix_43, boolsD_comp, intsD_comp, sh_int, sh_bool, sh_none, sh_str, ev_int, ev_bool, ev_str, ev_none, ev_ni, ev_in, uIfS, evT, ev, uRet, uRetO, uRetN, uDrop, uSet, uSetO, uMove, uFrz, uNext, uBreak, uCont, uApp, uIns, uPut, uPutA, uAug, uRaise, uVar, uC, uOp, uUn, uTru, uTst, uNot, uAnd, uOr, uAndV, uOrV, uNotV, uIf, uNil, uCons, argU, uTup, uLst, allD, onDs, onD, onT, onBool, oI, oIC, oAdd, oEq, oIsN, isN_none, isN_int, isN_bool, isN_str, isN_list, isN_tup, truD, oIx, uSl, uPart, uNoP, oSl, uCB, oLen, oList, oTuple, oInt, oAbs, oAll, oAny, oSum, onB, onI, uIs, uIs2, isT, uCall, uCallP, pick, vw, vw1, okU, okX, nolU, nol, nols, startU, kOf, kQ, kT, onL, uSeqI, uRng1, uRng2, rOk, uEnum, uRep, uTupRev, uYes, ugN, ugT2, wipeU, setU, uIfQ, uRetQ, uSetQ, uPutQ, ixC, uPar, uAsgT, uChain, uCall0, sizeLine_eq, oMax2, oSortI, oStrI, oIsB, szD, List.map_cons, List.map_nil, List.length_cons, List.length_nil, List.replicate, List.cons_append, List.nil_append, List.getElem?_cons_zero, List.getElem?_cons_succ, List.set_cons_zero, List.set_cons_succ, Option.map_some, Option.map_none, List.getD, Option.getD_some, if_true, true_and, and_true, Nat.reduceAdd, Nat.reduceSub, reduceIte, Bool.false_eq_true, Bool.not_true, Bool.not_false]
      refine ask_inverse w0 w400 st1 (fun hne => ?_) fun heq r r0' r1' r2' => ?_
      · simp [vw_jk, at_0, at_1, at_2, at_3, at_4, ix_40, ix_41, ix_42, ix_43, boolsD_comp, intsD_comp, sh_int, sh_bool, sh_none, sh_str, ev_int, ev_bool, ev_str, ev_none, ev_ni, ev_in, uIfS, evT, ev, uRet, uRetO, uRetN, uDrop, uSet, uSetO, uMove, uFrz, uNext, uBreak, uCont, uApp, uIns, uPut, uPutA, uAug, uRaise, uVar, uC, uOp, uUn, uTru, uTst, uNot, uAnd, uOr, uAndV, uOrV, uNotV, uIf, uNil, uCons, argU, uTup, uLst, allD, onDs, onD, onT, onBool, oI, oIC, oAdd, oEq, oIsN, isN_none, isN_int, isN_bool, isN_str, isN_list, isN_tup, truD, oIx, uSl, uPart, uNoP, oSl, uCB, oLen, oList, oTuple, oInt, oAbs, oAll, oAny, oSum, onB, onI, uIs, uIs2, isT, uCall, uCallP, pick, vw, vw1, okU, okX, nolU, nol, nols, startU, kOf, kQ, kT, onL, uSeqI, uRng1, uRng2, rOk, uEnum, uRep, uTupRev, uYes, ugN, ugT2, wipeU, setU, uIfQ, uRetQ, uSetQ, uPutQ, ixC, uPar, uAsgT, uChain, uCall0, sizeLine_eq, oMax2, oSortI, oStrI, oIsB, szD, List.map_cons, List.map_nil, List.length_cons, List.length_nil, List.replicate, List.cons_append, List.nil_append, List.getElem?_cons_zero, List.getElem?_cons_succ, List.set_cons_zero, List.set_cons_succ, Option.map_some, Option.map_none, List.getD, Option.getD_some, if_true, true_and, and_true, Nat.reduceAdd, Nat.reduceSub, reduceIte, Bool.false_eq_true, Bool.not_true, Bool.not_false]
        exact hM _ ⟨_, rfl, .inl ⟨back_none hne w0, rfl⟩⟩
      · simp [vw_jk, at_0, at_1, at_2, at_3, at_4, ix_40, ix_41, ix_42, ix_43, boolsD_comp, intsD_comp, sh_int, sh_bool, sh_none, sh_str, ev_int, ev_bool, ev_str, ev_none, ev_ni, ev_in, uIfS, evT, ev, uRet, uRetO, uRetN, uDrop, uSet, uSetO, uMove, uFrz, uNext, uBreak, uCont, uApp, uIns, uPut, uPutA, uAug, uRaise, uVar, uC, uOp, uUn, uTru, uTst, uNot, uAnd, uOr, uAndV, uOrV, uNotV, uIf, uNil, uCons, argU, uTup, uLst, allD, onDs, onD, onT, onBool, oI, oIC, oAdd, oEq, oIsN, isN_none, isN_int, isN_bool, isN_str, isN_list, isN_tup, truD, oIx, uSl, uPart, uNoP, oSl, uCB, oLen, oList, oTuple, oInt, oAbs, oAll, oAny, oSum, onB, onI, uIs, uIs2, isT, uCall, uCallP, pick, vw, vw1, okU, okX, nolU, nol, nols, startU, kOf, kQ, kT, onL, uSeqI, uRng1, uRng2, rOk, uEnum, uRep, uTupRev, uYes, ugN, ugT2, wipeU, setU, uIfQ, uRetQ, uSetQ, uPutQ, ixC, uPar, uAsgT, uChain, uCall0, sizeLine_eq, oMax2, oSortI, oStrI, oIsB, szD, List.map_cons, List.map_nil, List.length_cons, List.length_nil, List.replicate, List.cons_append, List.nil_append, List.getElem?_cons_zero, List.getElem?_cons_succ, List.set_cons_zero, List.set_cons_succ, Option.map_some, Option.map_none, List.getD, Option.getD_some, if_true, true_and, and_true, Nat.reduceAdd, Nat.reduceSub, reduceIte, Bool.false_eq_true, Bool.not_true, Bool.not_false]
        obtain ⟨l, hb⟩ := back_some r0' r1' r2'
        exact hM _ ⟨_, rfl, .inr ⟨_, l, hb, by rw [Int.toNat_of_nonneg r0']⟩⟩
    rintro s' ⟨x, rfl, hx⟩
    refine i_cut (fun s' => s' = [some (.hold HVk), some (.d (.int lap)), some (.d (.int w)), some (.d (.int st)), some (.d (.int k)), some (.d (.list (natD (backL w st)))), none, some (.d x), none, none, none, none]) ?_ ?_
    rotate_left
    · intro M hM
      have sb := sh_natD (backL w st)
      rcases hx with ⟨hb, rfl⟩ | ⟨z, l, hb, rfl⟩
      · rw [hb] at sb hM ⊢
        simp [vw_jk, at_0, at_1, at_2, at_3, at_4, ix_40, ix_41, ix_42, ix_43, boolsD_comp, intsD_comp, sh_int, sh_bool, sh_none, sh_str, ev_int, ev_bool, ev_str, ev_none, ev_ni, ev_in, uIfS, evT, ev, uRet, uRetO, uRetN, uDrop, uSet, uSetO, uMove, uFrz, uNext, uBreak, uCont, uApp, uIns, uPut, uPutA, uAug, uRaise, uVar, uC, uOp, uUn, uTru, uTst, uNot, uAnd, uOr, uAndV, uOrV, uNotV, uIf, uNil, uCons, argU, uTup, uLst, allD, onDs, onD, onT, onBool, oI, oIC, oAdd, oEq, oIsN, isN_none, isN_int, isN_bool, isN_str, isN_list, isN_tup, truD, oIx, uSl, uPart, uNoP, oSl, uCB, oLen, oList, oTuple, oInt, oAbs, oAll, oAny, oSum, onB, onI, uIs, uIs2, isT, uCall, uCallP, pick, vw, vw1, okU, okX, nolU, nol, nols, startU, kOf, kQ, kT, onL, uSeqI, uRng1, uRng2, rOk, uEnum, uRep, uTupRev, uYes, ugN, ugT2, wipeU, setU, uIfQ, uRetQ, uSetQ, uPutQ, ixC, uPar, uAsgT, uChain, uCall0, sizeLine_eq, oMax2, oSortI, oStrI, oIsB, szD, List.map_cons, List.map_nil, List.length_cons, List.length_nil, List.replicate, List.cons_append, List.nil_append, List.getElem?_cons_zero, List.getElem?_cons_succ, List.set_cons_zero, List.set_cons_succ, Option.map_some, Option.map_none, List.getD, Option.getD_some, if_true, true_and, and_true, Nat.reduceAdd, Nat.reduceSub, reduceIte, Bool.false_eq_true, Bool.not_true, Bool.not_false, sb, sh_nil, natD, ev_nil]
        exact hM _ rfl
      · rw [hb] at sb hM ⊢
        rw [natD_cons] at sb hM ⊢
        simp [vw_jk, at_0, at_1, at_2, at_3, at_4, ix_40, ix_41, ix_42, ix_43, boolsD_comp, intsD_comp, sh_int, sh_bool, sh_none, sh_str, ev_int, ev_bool, ev_str, ev_none, ev_ni, ev_in, uIfS, evT, ev, uRet, uRetO, uRetN, uDrop, uSet, uSetO, uMove, uFrz, uNext, uBreak, uCont, uApp, uIns, uPut, uPutA, uAug, uRaise, uVar, uC, uOp, uUn, uTru, uTst, uNot, uAnd, uOr, uAndV, uOrV, uNotV, uIf, uNil, uCons, argU, uTup, uLst, allD, onDs, onD, onT, onBool, oI, oIC, oAdd, oEq, oIsN, isN_none, isN_int, isN_bool, isN_str, isN_list, isN_tup, truD, oIx, uSl, uPart, uNoP, oSl, uCB, oLen, oList, oTuple, oInt, oAbs, oAll, oAny, oSum, onB, onI, uIs, uIs2, isT, uCall, uCallP, pick, vw, vw1, okU, okX, nolU, nol, nols, startU, kOf, kQ, kT, onL, uSeqI, uRng1, uRng2, rOk, uEnum, uRep, uTupRev, uYes, ugN, ugT2, wipeU, setU, uIfQ, uRetQ, uSetQ, uPutQ, ixC, uPar, uAsgT, uChain, uCall0, sizeLine_eq, oMax2, oSortI, oStrI, oIsB, szD, List.map_cons, List.map_nil, List.length_cons, List.length_nil, List.replicate, List.cons_append, List.nil_append, List.getElem?_cons_zero, List.getElem?_cons_succ, List.set_cons_zero, List.set_cons_succ, Option.map_some, Option.map_none, List.getD, Option.getD_some, if_true, true_and, and_true, Nat.reduceAdd, Nat.reduceSub, reduceIte, Bool.false_eq_true, Bool.not_true, Bool.not_false, sb, sh_nil, ev_cons, is_iff, eqI]
        exact hM _ rfl
    rintro s' rfl
    refine i_seq fun N7 hN7 => ?_
    simp [vw_jk, at_0, at_1, at_2, at_3, at_4, ix_40, ix_41, ix_42, ix_43, boolsD_comp, intsD_comp, sh_int, sh_bool, sh_none, sh_str, ev_int, ev_bool, ev_str, ev_none, ev_ni, ev_in, uIfS, evT, ev, uRet, uRetO, uRetN, uDrop, uSet, uSetO, uMove, uFrz, uNext, uBreak, uCont, uApp, uIns, uPut, uPutA, uAug, uRaise, uVar, uC, uOp, uUn, uTru, uTst, uNot, uAnd, uOr, uAndV, uOrV, uNotV, uIf, uNil, uCons, argU, uTup, uLst, allD, onDs, onD, onT, onBool, oI, oIC, oAdd, oEq, oIsN, isN_none, isN_int, isN_bool, isN_str, isN_list, isN_tup, truD, oIx, uSl, uPart, uNoP, oSl, uCB, oLen, oList, oTuple, oInt, oAbs, oAll, oAny, oSum, onB, onI, uIs, uIs2, isT, uCall, uCallP, pick, vw, vw1, okU, okX, nolU, nol, nols, startU, kOf, kQ, kT, onL, uSeqI, uRng1, uRng2, rOk, uEnum, uRep, uTupRev, uYes, ugN, ugT2, wipeU, setU, uIfQ, uRetQ, uSetQ, uPutQ, ixC, uPar, uAsgT, uChain, uCall0, sizeLine_eq, oMax2, oSortI, oStrI, oIsB, szD, List.map_cons, List.map_nil, List.length_cons, List.length_nil, List.replicate, List.cons_append, List.nil_append, List.getElem?_cons_zero, List.getElem?_cons_succ, List.set_cons_zero, List.set_cons_succ, Option.map_some, Option.map_none, List.getD, Option.getD_some, if_true, true_and, and_true, Nat.reduceAdd, Nat.reduceSub, reduceIte, Bool.false_eq_true, Bool.not_true, Bool.not_false]
    refine tkN 60 rfl (by decide) (by decide) fun q hq => ?_
    simp [vw_jk, at_0, at_1, at_2, at_3, at_4, ix_40, ix_41, ix_42, ix_43, boolsD_comp, intsD_comp, sh_int, sh_bool, sh_none, sh_str, ev_int, ev_bool, ev_str, ev_none, ev_ni, ev_in, uIfS, evT, ev, uRet, uRetO, uRetN, uDrop, uSet, uSetO, uMove, uFrz, uNext, uBreak, uCont, uApp, uIns, uPut, uPutA, uAug, uRaise, uVar, uC, uOp, uUn, uTru, uTst, uNot, uAnd, uOr, uAndV, uOrV, uNotV, uIf, uNil, uCons, argU, uTup, uLst, allD, onDs, onD, onT, onBool, oI, oIC, oAdd, oEq, oIsN, isN_none, isN_int, isN_bool, isN_str, isN_list, isN_tup, truD, oIx, uSl, uPart, uNoP, oSl, uCB, oLen, oList, oTuple, oInt, oAbs, oAll, oAny, oSum, onB, onI, uIs, uIs2, isT, uCall, uCallP, pick, vw, vw1, okU, okX, nolU, nol, nols, startU, kOf, kQ, kT, onL, uSeqI, uRng1, uRng2, rOk, uEnum, uRep, uTupRev, uYes, ugN, ugT2, wipeU, setU, uIfQ, uRetQ, uSetQ, uPutQ, ixC, uPar, uAsgT, uChain, uCall0, sizeLine_eq, oMax2, oSortI, oStrI, oIsB, szD, List.map_cons, List.map_nil, List.length_cons, List.length_nil, List.replicate, List.cons_append, List.nil_append, List.getElem?_cons_zero, List.getElem?_cons_succ, List.set_cons_zero, List.set_cons_succ, Option.map_some, Option.map_none, List.getD, Option.getD_some, if_true, true_and, and_true, Nat.reduceAdd, Nat.reduceSub, reduceIte, Bool.false_eq_true, Bool.not_true, Bool.not_false]
    rw [hN7]
    obtain ⟨oo, eoo, o0, o1⟩ : ∃ oo : Nat, (1 + (q : Int)) = oo ∧ 1 ≤ oo ∧ oo ≤ 60 := ⟨1 + q, by simp, by omega, by omega⟩
    rw [eoo]
    refine i_seq fun N8 hN8 => ?_
    simp [vw_jk, at_0, at_1, at_2, at_3, at_4, ix_40, ix_41, ix_42, ix_43, boolsD_comp, intsD_comp, sh_int, sh_bool, sh_none, sh_str, ev_int, ev_bool, ev_str, ev_none, ev_ni, ev_in, uIfS, evT, ev, uRet, uRetO, uRetN, uDrop, uSet, uSetO, uMove, uFrz, uNext, uBreak, uCont, uApp, uIns, uPut, uPutA, uAug, uRaise, uVar, uC, uOp, uUn, uTru, uTst, uNot, uAnd, uOr, uAndV, uOrV, uNotV, uIf, uNil, uCons, argU, uTup, uLst, allD, onDs, onD, onT, onBool, oI, oIC, oAdd, oEq, oIsN, isN_none, isN_int, isN_bool, isN_str, isN_list, isN_tup, truD, oIx, uSl, uPart, uNoP, oSl, uCB, oLen, oList, oTuple, oInt, oAbs, oAll, oAny, oSum, onB, onI, uIs, uIs2, isT, uCall, uCallP, pick, vw, vw1, okU, okX, nolU, nol, nols, startU, kOf, kQ, kT, onL, uSeqI, uRng1, uRng2, rOk, uEnum, uRep, uTupRev, uYes, ugN, ugT2, wipeU, setU, uIfQ, uRetQ, uSetQ, uPutQ, ixC, uPar, uAsgT, uChain, uCall0, sizeLine_eq, oMax2, oSortI, oStrI, oIsB, szD, List.map_cons, List.map_nil, List.length_cons, List.length_nil, List.replicate, List.cons_append, List.nil_append, List.getElem?_cons_zero, List.getElem?_cons_succ, List.set_cons_zero, List.set_cons_succ, Option.map_some, Option.map_none, List.getD, Option.getD_some, if_true, true_and, and_true, Nat.reduceAdd, Nat.reduceSub, reduceIte, Bool.false_eq_true, Bool.not_true, Bool.not_false]
    refine ⟨w, oo, rfl, w0, by omega, o0, ?_⟩
    simp [vw_jk, at_0, at_1, at_2, at_3, at_4, ix_40, ix_41, ix_42, ix_43, boolsD_comp, intsD_comp, sh_int, sh_bool, sh_none, sh_str, ev_int, ev_bool, ev_str, ev_none, ev_ni, ev_in, uIfS, evT, ev, uRet, uRetO, uRetN, uDrop, uSet, uSetO, uMove, uFrz, uNext, uBreak, uCont, uApp, uIns, uPut, uPutA, uAug, uRaise, uVar, uC, uOp, uUn, uTru, uTst, uNot, uAnd, uOr, uAndV, uOrV, uNotV, uIf, uNil, uCons, argU, uTup, uLst, allD, onDs, onD, onT, onBool, oI, oIC, oAdd, oEq, oIsN, isN_none, isN_int, isN_bool, isN_str, isN_list, isN_tup, truD, oIx, uSl, uPart, uNoP, oSl, uCB, oLen, oList, oTuple, oInt, oAbs, oAll, oAny, oSum, onB, onI, uIs, uIs2, isT, uCall, uCallP, pick, vw, vw1, okU, okX, nolU, nol, nols, startU, kOf, kQ, kT, onL, uSeqI, uRng1, uRng2, rOk, uEnum, uRep, uTupRev, uYes, ugN, ugT2, wipeU, setU, uIfQ, uRetQ, uSetQ, uPutQ, ixC, uPar, uAsgT, uChain, uCall0, sizeLine_eq, oMax2, oSortI, oStrI, oIsB, szD, List.map_cons, List.map_nil, List.length_cons, List.length_nil, List.replicate, List.cons_append, List.nil_append, List.getElem?_cons_zero, List.getElem?_cons_succ, List.set_cons_zero, List.set_cons_succ, Option.map_some, Option.map_none, List.getD, Option.getD_some, if_true, true_and, and_true, Nat.reduceAdd, Nat.reduceSub, reduceIte, Bool.false_eq_true, Bool.not_true, Bool.not_false]
    rw [hN8]
    refine i_seq fun N9 hN9 => ?_
    simp [vw_jk, at_0, at_1, at_2, at_3, at_4, ix_40, ix_41, ix_42, ix_43, boolsD_comp, intsD_comp, sh_int, sh_bool, sh_none, sh_str, ev_int, ev_bool, ev_str, ev_none, ev_ni, ev_in, uIfS, evT, ev, uRet, uRetO, uRetN, uDrop, uSet, uSetO, uMove, uFrz, uNext, uBreak, uCont, uApp, uIns, uPut, uPutA, uAug, uRaise, uVar, uC, uOp, uUn, uTru, uTst, uNot, uAnd, uOr, uAndV, uOrV, uNotV, uIf, uNil, uCons, argU, uTup, uLst, allD, onDs, onD, onT, onBool, oI, oIC, oAdd, oEq, oIsN, isN_none, isN_int, isN_bool, isN_str, isN_list, isN_tup, truD, oIx, uSl, uPart, uNoP, oSl, uCB, oLen, oList, oTuple, oInt, oAbs, oAll, oAny, oSum, onB, onI, uIs, uIs2, isT, uCall, uCallP, pick, vw, vw1, okU, okX, nolU, nol, nols, startU, kOf, kQ, kT, onL, uSeqI, uRng1, uRng2, rOk, uEnum, uRep, uTupRev, uYes, ugN, ugT2, wipeU, setU, uIfQ, uRetQ, uSetQ, uPutQ, ixC, uPar, uAsgT, uChain, uCall0, sizeLine_eq, oMax2, oSortI, oStrI, oIsB, szD, List.map_cons, List.map_nil, List.length_cons, List.length_nil, List.replicate, List.cons_append, List.nil_append, List.getElem?_cons_zero, List.getElem?_cons_succ, List.set_cons_zero, List.set_cons_succ, Option.map_some, Option.map_none, List.getD, Option.getD_some, if_true, true_and, and_true, Nat.reduceAdd, Nat.reduceSub, reduceIte, Bool.false_eq_true, Bool.not_true, Bool.not_false]
    refine gcd_call ?_
    simp [vw_jk, at_0, at_1, at_2, at_3, at_4, ix_40, ix_41, ix_42, ix_43, boolsD_comp, intsD_comp, sh_int, sh_bool, sh_none, sh_str, ev_int, ev_bool, ev_str, ev_none, ev_ni, ev_in, uIfS, evT, ev, uRet, uRetO, uRetN, uDrop, uSet, uSetO, uMove, uFrz, uNext, uBreak, uCont, uApp, uIns, uPut, uPutA, uAug, uRaise, uVar, uC, uOp, uUn, uTru, uTst, uNot, uAnd, uOr, uAndV, uOrV, uNotV, uIf, uNil, uCons, argU, uTup, uLst, allD, onDs, onD, onT, onBool, oI, oIC, oAdd, oEq, oIsN, isN_none, isN_int, isN_bool, isN_str, isN_list, isN_tup, truD, oIx, uSl, uPart, uNoP, oSl, uCB, oLen, oList, oTuple, oInt, oAbs, oAll, oAny, oSum, onB, onI, uIs, uIs2, isT, uCall, uCallP, pick, vw, vw1, okU, okX, nolU, nol, nols, startU, kOf, kQ, kT, onL, uSeqI, uRng1, uRng2, rOk, uEnum, uRep, uTupRev, uYes, ugN, ugT2, wipeU, setU, uIfQ, uRetQ, uSetQ, uPutQ, ixC, uPar, uAsgT, uChain, uCall0, sizeLine_eq, oMax2, oSortI, oStrI, oIsB, szD, List.map_cons, List.map_nil, List.length_cons, List.length_nil, List.replicate, List.cons_append, List.nil_append, List.getElem?_cons_zero, List.getElem?_cons_succ, List.set_cons_zero, List.set_cons_succ, Option.map_some, Option.map_none, List.getD, Option.getD_some, if_true, true_and, and_true, Nat.reduceAdd, Nat.reduceSub, reduceIte, Bool.false_eq_true, Bool.not_true, Bool.not_false, is_iff, eqI_self]
    rw [hN9]
    refine i_seq fun N10 hN10 => ?_
    simp [vw_jk, at_0, at_1, at_2, at_3, at_4, ix_40, ix_41, ix_42, ix_43, boolsD_comp, intsD_comp, sh_int, sh_bool, sh_none, sh_str, ev_int, ev_bool, ev_str, ev_none, ev_ni, ev_in, uIfS, evT, ev, uRet, uRetO, uRetN, uDrop, uSet, uSetO, uMove, uFrz, uNext, uBreak, uCont, uApp, uIns, uPut, uPutA, uAug, uRaise, uVar, uC, uOp, uUn, uTru, uTst, uNot, uAnd, uOr, uAndV, uOrV, uNotV, uIf, uNil, uCons, argU, uTup, uLst, allD, onDs, onD, onT, onBool, oI, oIC, oAdd, oEq, oIsN, isN_none, isN_int, isN_bool, isN_str, isN_list, isN_tup, truD, oIx, uSl, uPart, uNoP, oSl, uCB, oLen, oList, oTuple, oInt, oAbs, oAll, oAny, oSum, onB, onI, uIs, uIs2, isT, uCall, uCallP, pick, vw, vw1, okU, okX, nolU, nol, nols, startU, kOf, kQ, kT, onL, uSeqI, uRng1, uRng2, rOk, uEnum, uRep, uTupRev, uYes, ugN, ugT2, wipeU, setU, uIfQ, uRetQ, uSetQ, uPutQ, ixC, uPar, uAsgT, uChain, uCall0, sizeLine_eq, oMax2, oSortI, oStrI, oIsB, szD, List.map_cons, List.map_nil, List.length_cons, List.length_nil, List.replicate, List.cons_append, List.nil_append, List.getElem?_cons_zero, List.getElem?_cons_succ, List.set_cons_zero, List.set_cons_succ, Option.map_some, Option.map_none, List.getD, Option.getD_some, if_true, true_and, and_true, Nat.reduceAdd, Nat.reduceSub, reduceIte, Bool.false_eq_true, Bool.not_true, Bool.not_false]
    refine i_lc ?_
    simp [vw_jk, at_0, at_1, at_2, at_3, at_4, ix_40, ix_41, ix_42, ix_43, boolsD_comp, intsD_comp, sh_int, sh_bool, sh_none, sh_str, ev_int, ev_bool, ev_str, ev_none, ev_ni, ev_in, uIfS, evT, ev, uRet, uRetO, uRetN, uDrop, uSet, uSetO, uMove, uFrz, uNext, uBreak, uCont, uApp, uIns, uPut, uPutA, uAug, uRaise, uVar, uC, uOp, uUn, uTru, uTst, uNot, uAnd, uOr, uAndV, uOrV, uNotV, uIf, uNil, uCons, argU, uTup, uLst, allD, onDs, onD, onT, onBool, oI, oIC, oAdd, oEq, oIsN, isN_none, isN_int, isN_bool, isN_str, isN_list, isN_tup, truD, oIx, uSl, uPart, uNoP, oSl, uCB, oLen, oList, oTuple, oInt, oAbs, oAll, oAny, oSum, onB, onI, uIs, uIs2, isT, uCall, uCallP, pick, vw, vw1, okU, okX, nolU, nol, nols, startU, kOf, kQ, kT, onL, uSeqI, uRng1, uRng2, rOk, uEnum, uRep, uTupRev, uYes, ugN, ugT2, wipeU, setU, uIfQ, uRetQ, uSetQ, uPutQ, ixC, uPar, uAsgT, uChain, uCall0, sizeLine_eq, oMax2, oSortI, oStrI, oIsB, szD, List.map_cons, List.map_nil, List.length_cons, List.length_nil, List.replicate, List.cons_append, List.nil_append, List.getElem?_cons_zero, List.getElem?_cons_succ, List.set_cons_zero, List.set_cons_succ, Option.map_some, Option.map_none, List.getD, Option.getD_some, if_true, true_and, and_true, Nat.reduceAdd, Nat.reduceSub, reduceIte, Bool.false_eq_true, Bool.not_true, Bool.not_false]
    refine ⟨by omega, ?_⟩
    refine lc_fun (gSh w oo) (by rw [rngD_len]; exact lt_line (by omega)) (fun i d e => ?_) ?_
    · obtain ⟨rfl, hi⟩ := get_rngD e
      refine ⟨_, rfl, by simp, fun acc J hJ => ?_⟩
      have hi2 : i < 200 := by omega
      simp [vw_jk, at_0, at_1, at_2, at_3, at_4, ix_40, ix_41, ix_42, ix_43, boolsD_comp, intsD_comp, sh_int, sh_bool, sh_none, sh_str, ev_int, ev_bool, ev_str, ev_none, ev_ni, ev_in, uIfS, evT, ev, uRet, uRetO, uRetN, uDrop, uSet, uSetO, uMove, uFrz, uNext, uBreak, uCont, uApp, uIns, uPut, uPutA, uAug, uRaise, uVar, uC, uOp, uUn, uTru, uTst, uNot, uAnd, uOr, uAndV, uOrV, uNotV, uIf, uNil, uCons, argU, uTup, uLst, allD, onDs, onD, onT, onBool, oI, oIC, oAdd, oEq, oIsN, isN_none, isN_int, isN_bool, isN_str, isN_list, isN_tup, truD, oIx, uSl, uPart, uNoP, oSl, uCB, oLen, oList, oTuple, oInt, oAbs, oAll, oAny, oSum, onB, onI, uIs, uIs2, isT, uCall, uCallP, pick, vw, vw1, okU, okX, nolU, nol, nols, startU, kOf, kQ, kT, onL, uSeqI, uRng1, uRng2, rOk, uEnum, uRep, uTupRev, uYes, ugN, ugT2, wipeU, setU, uIfQ, uRetQ, uSetQ, uPutQ, ixC, uPar, uAsgT, uChain, uCall0, sizeLine_eq, oMax2, oSortI, oStrI, oIsB, szD, List.map_cons, List.map_nil, List.length_cons, List.length_nil, List.replicate, List.cons_append, List.nil_append, List.getElem?_cons_zero, List.getElem?_cons_succ, List.set_cons_zero, List.set_cons_succ, Option.map_some, Option.map_none, List.getD, Option.getD_some, if_true, true_and, and_true, Nat.reduceAdd, Nat.reduceSub, reduceIte, Bool.false_eq_true, Bool.not_true, Bool.not_false]
      refine ⟨mulR (by omega), by omega, ?_⟩
      simp [gSh] at hJ
      split
      · next hz => rw [if_pos hz] at hJ; exact ⟨mulR (by omega), hJ⟩
      · next hz => rw [if_neg hz] at hJ; simpa using hJ
    rw [gSh_sh]
    obtain ⟨l, hl2⟩ := sh_head (o := oo) w0
    rw [hl2]
    simp only [vw_jk, at_0, at_1, at_2, at_3, at_4, ix_40, ix_41, ix_42, ix_43, boolsD_comp, intsD_comp, sh_int, sh_bool, sh_none, sh_str, ev_int, ev_bool, ev_str, ev_none, ev_ni, ev_in, uIfS, evT, ev, uRet, uRetO, uRetN, uDrop, uSet, uSetO, uMove, uFrz, uNext, uBreak, uCont, uApp, uIns, uPut, uPutA, uAug, uRaise, uVar, uC, uOp, uUn, uTru, uTst, uNot, uAnd, uOr, uAndV, uOrV, uNotV, uIf, uNil, uCons, argU, uTup, uLst, allD, onDs, onD, onT, onBool, oI, oIC, oAdd, oEq, oIsN, isN_none, isN_int, isN_bool, isN_str, isN_list, isN_tup, truD, oIx, uSl, uPart, uNoP, oSl, uCB, oLen, oList, oTuple, oInt, oAbs, oAll, oAny, oSum, onB, onI, uIs, uIs2, isT, uCall, uCallP, pick, vw, vw1, okU, okX, nolU, nol, nols, startU, kOf, kQ, kT, onL, uSeqI, uRng1, uRng2, rOk, uEnum, uRep, uTupRev, uYes, ugN, ugT2, wipeU, setU, uIfQ, uRetQ, uSetQ, uPutQ, ixC, uPar, uAsgT, uChain, uCall0, sizeLine_eq, oMax2, oSortI, oStrI, oIsB, szD, List.map_cons, List.map_nil, List.length_cons, List.length_nil, List.replicate, List.cons_append, List.nil_append, List.getElem?_cons_zero, List.getElem?_cons_succ, List.set_cons_zero, List.set_cons_succ, Option.map_some, Option.map_none, List.getD, Option.getD_some, if_true, true_and, and_true, Nat.reduceAdd, Nat.reduceSub, reduceIte, Bool.false_eq_true, Bool.not_true, Bool.not_false]
    rw [hN10]
    refine i_seq fun N11 hN11 => ?_
    simp [vw_jk, at_0, at_1, at_2, at_3, at_4, ix_40, ix_41, ix_42, ix_43, boolsD_comp, intsD_comp, sh_int, sh_bool, sh_none, sh_str, ev_int, ev_bool, ev_str, ev_none, ev_ni, ev_in, uIfS, evT, ev, uRet, uRetO, uRetN, uDrop, uSet, uSetO, uMove, uFrz, uNext, uBreak, uCont, uApp, uIns, uPut, uPutA, uAug, uRaise, uVar, uC, uOp, uUn, uTru, uTst, uNot, uAnd, uOr, uAndV, uOrV, uNotV, uIf, uNil, uCons, argU, uTup, uLst, allD, onDs, onD, onT, onBool, oI, oIC, oAdd, oEq, oIsN, isN_none, isN_int, isN_bool, isN_str, isN_list, isN_tup, truD, oIx, uSl, uPart, uNoP, oSl, uCB, oLen, oList, oTuple, oInt, oAbs, oAll, oAny, oSum, onB, onI, uIs, uIs2, isT, uCall, uCallP, pick, vw, vw1, okU, okX, nolU, nol, nols, startU, kOf, kQ, kT, onL, uSeqI, uRng1, uRng2, rOk, uEnum, uRep, uTupRev, uYes, ugN, ugT2, wipeU, setU, uIfQ, uRetQ, uSetQ, uPutQ, ixC, uPar, uAsgT, uChain, uCall0, sizeLine_eq, oMax2, oSortI, oStrI, oIsB, szD, List.map_cons, List.map_nil, List.length_cons, List.length_nil, List.replicate, List.cons_append, List.nil_append, List.getElem?_cons_zero, List.getElem?_cons_succ, List.set_cons_zero, List.set_cons_succ, Option.map_some, Option.map_none, List.getD, Option.getD_some, if_true, true_and, and_true, Nat.reduceAdd, Nat.reduceSub, reduceIte, Bool.false_eq_true, Bool.not_true, Bool.not_false]
    refine lcm_call (by omega) w0 w400 ?_
    rw [natD_cons]
    simp [vw_jk, at_0, at_1, at_2, at_3, at_4, ix_40, ix_41, ix_42, ix_43, boolsD_comp, intsD_comp, sh_int, sh_bool, sh_none, sh_str, ev_int, ev_bool, ev_str, ev_none, ev_ni, ev_in, uIfS, evT, ev, uRet, uRetO, uRetN, uDrop, uSet, uSetO, uMove, uFrz, uNext, uBreak, uCont, uApp, uIns, uPut, uPutA, uAug, uRaise, uVar, uC, uOp, uUn, uTru, uTst, uNot, uAnd, uOr, uAndV, uOrV, uNotV, uIf, uNil, uCons, argU, uTup, uLst, allD, onDs, onD, onT, onBool, oI, oIC, oAdd, oEq, oIsN, isN_none, isN_int, isN_bool, isN_str, isN_list, isN_tup, truD, oIx, uSl, uPart, uNoP, oSl, uCB, oLen, oList, oTuple, oInt, oAbs, oAll, oAny, oSum, onB, onI, uIs, uIs2, isT, uCall, uCallP, pick, vw, vw1, okU, okX, nolU, nol, nols, startU, kOf, kQ, kT, onL, uSeqI, uRng1, uRng2, rOk, uEnum, uRep, uTupRev, uYes, ugN, ugT2, wipeU, setU, uIfQ, uRetQ, uSetQ, uPutQ, ixC, uPar, uAsgT, uChain, uCall0, sizeLine_eq, oMax2, oSortI, oStrI, oIsB, szD, List.map_cons, List.map_nil, List.length_cons, List.length_nil, List.replicate, List.cons_append, List.nil_append, List.getElem?_cons_zero, List.getElem?_cons_succ, List.set_cons_zero, List.set_cons_succ, Option.map_some, Option.map_none, List.getD, Option.getD_some, if_true, true_and, and_true, Nat.reduceAdd, Nat.reduceSub, reduceIte, Bool.false_eq_true, Bool.not_true, Bool.not_false, is_iff, eqI]
    rw [hN11]
    refine i_seq fun N12 hN12 => ?_
    refine i_for2 ?_
    simp [vw_jk, at_0, at_1, at_2, at_3, at_4, ix_40, ix_41, ix_42, ix_43, boolsD_comp, intsD_comp, sh_int, sh_bool, sh_none, sh_str, ev_int, ev_bool, ev_str, ev_none, ev_ni, ev_in, uIfS, evT, ev, uRet, uRetO, uRetN, uDrop, uSet, uSetO, uMove, uFrz, uNext, uBreak, uCont, uApp, uIns, uPut, uPutA, uAug, uRaise, uVar, uC, uOp, uUn, uTru, uTst, uNot, uAnd, uOr, uAndV, uOrV, uNotV, uIf, uNil, uCons, argU, uTup, uLst, allD, onDs, onD, onT, onBool, oI, oIC, oAdd, oEq, oIsN, isN_none, isN_int, isN_bool, isN_str, isN_list, isN_tup, truD, oIx, uSl, uPart, uNoP, oSl, uCB, oLen, oList, oTuple, oInt, oAbs, oAll, oAny, oSum, onB, onI, uIs, uIs2, isT, uCall, uCallP, pick, vw, vw1, okU, okX, nolU, nol, nols, startU, kOf, kQ, kT, onL, uSeqI, uRng1, uRng2, rOk, uEnum, uRep, uTupRev, uYes, ugN, ugT2, wipeU, setU, uIfQ, uRetQ, uSetQ, uPutQ, ixC, uPar, uAsgT, uChain, uCall0, sizeLine_eq, oMax2, oSortI, oStrI, oIsB, szD, List.map_cons, List.map_nil, List.length_cons, List.length_nil, List.replicate, List.cons_append, List.nil_append, List.getElem?_cons_zero, List.getElem?_cons_succ, List.set_cons_zero, List.set_cons_succ, Option.map_some, Option.map_none, List.getD, Option.getD_some, if_true, true_and, and_true, Nat.reduceAdd, Nat.reduceSub, reduceIte, Bool.false_eq_true, Bool.not_true, Bool.not_false]
    refine ⟨?_, ?_⟩
    · by_cases z : st = 0
      · subst z; decide
      · have := (Nat.log2_lt z).mpr (show st < 2 ^ 400 by omega)
        omega
    refine f_in (fun i s' => ∃ o : Option D, s' = [some (.hold HVk), some (.d (.int lap)), some (.d (.int w)), some (.d (.int st)), some (.d (.int k)), some (.d (.list (natD (backL w st)))), none, some (.d x), some (.d (.int oo)), some (.d (.int (Nat.gcd w oo : Nat))), some (.d (.list (natD (oo / Nat.gcd oo w * w :: l)))), jk o]) ⟨none, rfl⟩ (fun i d s' e hi hs NX hNX => ?_) (fun s' hs => ?_)
    · obtain ⟨o, rfl⟩ := hs
      have hm := List.mem_of_getElem? e
      have hno : ¬ isPl w d := by
        rintro ⟨p, rfl, hpw⟩
        simp at hm
        omega
      simp [vw_jk, at_0, at_1, at_2, at_3, at_4, ix_40, ix_41, ix_42, ix_43, boolsD_comp, intsD_comp, sh_int, sh_bool, sh_none, sh_str, ev_int, ev_bool, ev_str, ev_none, ev_ni, ev_in, uIfS, evT, ev, uRet, uRetO, uRetN, uDrop, uSet, uSetO, uMove, uFrz, uNext, uBreak, uCont, uApp, uIns, uPut, uPutA, uAug, uRaise, uVar, uC, uOp, uUn, uTru, uTst, uNot, uAnd, uOr, uAndV, uOrV, uNotV, uIf, uNil, uCons, argU, uTup, uLst, allD, onDs, onD, onT, onBool, oI, oIC, oAdd, oEq, oIsN, isN_none, isN_int, isN_bool, isN_str, isN_list, isN_tup, truD, oIx, uSl, uPart, uNoP, oSl, uCB, oLen, oList, oTuple, oInt, oAbs, oAll, oAny, oSum, onB, onI, uIs, uIs2, isT, uCall, uCallP, pick, vw, vw1, okU, okX, nolU, nol, nols, startU, kOf, kQ, kT, onL, uSeqI, uRng1, uRng2, rOk, uEnum, uRep, uTupRev, uYes, ugN, ugT2, wipeU, setU, uIfQ, uRetQ, uSetQ, uPutQ, ixC, uPar, uAsgT, uChain, uCall0, sizeLine_eq, oMax2, oSortI, oStrI, oIsB, szD, List.map_cons, List.map_nil, List.length_cons, List.length_nil, List.replicate, List.cons_append, List.nil_append, List.getElem?_cons_zero, List.getElem?_cons_succ, List.set_cons_zero, List.set_cons_succ, Option.map_some, Option.map_none, List.getD, Option.getD_some, if_true, true_and, and_true, Nat.reduceAdd, Nat.reduceSub, reduceIte, Bool.false_eq_true, Bool.not_true, Bool.not_false]
      refine ref_turns w0 w400 hno ?_
      simp [vw_jk, at_0, at_1, at_2, at_3, at_4, ix_40, ix_41, ix_42, ix_43, boolsD_comp, intsD_comp, sh_int, sh_bool, sh_none, sh_str, ev_int, ev_bool, ev_str, ev_none, ev_ni, ev_in, uIfS, evT, ev, uRet, uRetO, uRetN, uDrop, uSet, uSetO, uMove, uFrz, uNext, uBreak, uCont, uApp, uIns, uPut, uPutA, uAug, uRaise, uVar, uC, uOp, uUn, uTru, uTst, uNot, uAnd, uOr, uAndV, uOrV, uNotV, uIf, uNil, uCons, argU, uTup, uLst, allD, onDs, onD, onT, onBool, oI, oIC, oAdd, oEq, oIsN, isN_none, isN_int, isN_bool, isN_str, isN_list, isN_tup, truD, oIx, uSl, uPart, uNoP, oSl, uCB, oLen, oList, oTuple, oInt, oAbs, oAll, oAny, oSum, onB, onI, uIs, uIs2, isT, uCall, uCallP, pick, vw, vw1, okU, okX, nolU, nol, nols, startU, kOf, kQ, kT, onL, uSeqI, uRng1, uRng2, rOk, uEnum, uRep, uTupRev, uYes, ugN, ugT2, wipeU, setU, uIfQ, uRetQ, uSetQ, uPutQ, ixC, uPar, uAsgT, uChain, uCall0, sizeLine_eq, oMax2, oSortI, oStrI, oIsB, szD, List.map_cons, List.map_nil, List.length_cons, List.length_nil, List.replicate, List.cons_append, List.nil_append, List.getElem?_cons_zero, List.getElem?_cons_succ, List.set_cons_zero, List.set_cons_succ, Option.map_some, Option.map_none, List.getD, Option.getD_some, if_true, true_and, and_true, Nat.reduceAdd, Nat.reduceSub, reduceIte, Bool.false_eq_true, Bool.not_true, Bool.not_false]
      refine ref_inverse w0 w400 hno ?_
      simp [vw_jk, at_0, at_1, at_2, at_3, at_4, ix_40, ix_41, ix_42, ix_43, boolsD_comp, intsD_comp, sh_int, sh_bool, sh_none, sh_str, ev_int, ev_bool, ev_str, ev_none, ev_ni, ev_in, uIfS, evT, ev, uRet, uRetO, uRetN, uDrop, uSet, uSetO, uMove, uFrz, uNext, uBreak, uCont, uApp, uIns, uPut, uPutA, uAug, uRaise, uVar, uC, uOp, uUn, uTru, uTst, uNot, uAnd, uOr, uAndV, uOrV, uNotV, uIf, uNil, uCons, argU, uTup, uLst, allD, onDs, onD, onT, onBool, oI, oIC, oAdd, oEq, oIsN, isN_none, isN_int, isN_bool, isN_str, isN_list, isN_tup, truD, oIx, uSl, uPart, uNoP, oSl, uCB, oLen, oList, oTuple, oInt, oAbs, oAll, oAny, oSum, onB, onI, uIs, uIs2, isT, uCall, uCallP, pick, vw, vw1, okU, okX, nolU, nol, nols, startU, kOf, kQ, kT, onL, uSeqI, uRng1, uRng2, rOk, uEnum, uRep, uTupRev, uYes, ugN, ugT2, wipeU, setU, uIfQ, uRetQ, uSetQ, uPutQ, ixC, uPar, uAsgT, uChain, uCall0, sizeLine_eq, oMax2, oSortI, oStrI, oIsB, szD, List.map_cons, List.map_nil, List.length_cons, List.length_nil, List.replicate, List.cons_append, List.nil_append, List.getElem?_cons_zero, List.getElem?_cons_succ, List.set_cons_zero, List.set_cons_succ, Option.map_some, Option.map_none, List.getD, Option.getD_some, if_true, true_and, and_true, Nat.reduceAdd, Nat.reduceSub, reduceIte, Bool.false_eq_true, Bool.not_true, Bool.not_false]
      exact hNX _ ⟨some d, rfl⟩
    · obtain ⟨o, rfl⟩ := hs
      show N12 _
      rw [hN12]
      simp [vw_jk, at_0, at_1, at_2, at_3, at_4, ix_40, ix_41, ix_42, ix_43, boolsD_comp, intsD_comp, sh_int, sh_bool, sh_none, sh_str, ev_int, ev_bool, ev_str, ev_none, ev_ni, ev_in, uIfS, evT, ev, uRet, uRetO, uRetN, uDrop, uSet, uSetO, uMove, uFrz, uNext, uBreak, uCont, uApp, uIns, uPut, uPutA, uAug, uRaise, uVar, uC, uOp, uUn, uTru, uTst, uNot, uAnd, uOr, uAndV, uOrV, uNotV, uIf, uNil, uCons, argU, uTup, uLst, allD, onDs, onD, onT, onBool, oI, oIC, oAdd, oEq, oIsN, isN_none, isN_int, isN_bool, isN_str, isN_list, isN_tup, truD, oIx, uSl, uPart, uNoP, oSl, uCB, oLen, oList, oTuple, oInt, oAbs, oAll, oAny, oSum, onB, onI, uIs, uIs2, isT, uCall, uCallP, pick, vw, vw1, okU, okX, nolU, nol, nols, startU, kOf, kQ, kT, onL, uSeqI, uRng1, uRng2, rOk, uEnum, uRep, uTupRev, uYes, ugN, ugT2, wipeU, setU, uIfQ, uRetQ, uSetQ, uPutQ, ixC, uPar, uAsgT, uChain, uCall0, sizeLine_eq, oMax2, oSortI, oStrI, oIsB, szD, List.map_cons, List.map_nil, List.length_cons, List.length_nil, List.replicate, List.cons_append, List.nil_append, List.getElem?_cons_zero, List.getElem?_cons_succ, List.set_cons_zero, List.set_cons_succ, Option.map_some, Option.map_none, List.getD, Option.getD_some, if_true, true_and, and_true, Nat.reduceAdd, Nat.reduceSub, reduceIte, Bool.false_eq_true, Bool.not_true, Bool.not_false]
      refine inverse_call (a := 1) (b := 0) (by decide) (by decide) (by decide) (fun z => absurd rfl z) fun _ r r0 r1 _ => ?_
      have hr : r = 0 := by omega
      subst hr
      simp [vw_jk, at_0, at_1, at_2, at_3, at_4, ix_40, ix_41, ix_42, ix_43, boolsD_comp, intsD_comp, sh_int, sh_bool, sh_none, sh_str, ev_int, ev_bool, ev_str, ev_none, ev_ni, ev_in, uIfS, evT, ev, uRet, uRetO, uRetN, uDrop, uSet, uSetO, uMove, uFrz, uNext, uBreak, uCont, uApp, uIns, uPut, uPutA, uAug, uRaise, uVar, uC, uOp, uUn, uTru, uTst, uNot, uAnd, uOr, uAndV, uOrV, uNotV, uIf, uNil, uCons, argU, uTup, uLst, allD, onDs, onD, onT, onBool, oI, oIC, oAdd, oEq, oIsN, isN_none, isN_int, isN_bool, isN_str, isN_list, isN_tup, truD, oIx, uSl, uPart, uNoP, oSl, uCB, oLen, oList, oTuple, oInt, oAbs, oAll, oAny, oSum, onB, onI, uIs, uIs2, isT, uCall, uCallP, pick, vw, vw1, okU, okX, nolU, nol, nols, startU, kOf, kQ, kT, onL, uSeqI, uRng1, uRng2, rOk, uEnum, uRep, uTupRev, uYes, ugN, ugT2, wipeU, setU, uIfQ, uRetQ, uSetQ, uPutQ, ixC, uPar, uAsgT, uChain, uCall0, sizeLine_eq, oMax2, oSortI, oStrI, oIsB, szD, List.map_cons, List.map_nil, List.length_cons, List.length_nil, List.replicate, List.cons_append, List.nil_append, List.getElem?_cons_zero, List.getElem?_cons_succ, List.set_cons_zero, List.set_cons_succ, Option.map_some, Option.map_none, List.getD, Option.getD_some, if_true, true_and, and_true, Nat.reduceAdd, Nat.reduceSub, reduceIte, Bool.false_eq_true, Bool.not_true, Bool.not_false, is_iff, eqI]
      refine turns_call (a := 1) (b := 0) (by decide) (by decide) (by decide) ?_
      simp [vw_jk, at_0, at_1, at_2, at_3, at_4, ix_40, ix_41, ix_42, ix_43, boolsD_comp, intsD_comp, sh_int, sh_bool, sh_none, sh_str, ev_int, ev_bool, ev_str, ev_none, ev_ni, ev_in, uIfS, evT, ev, uRet, uRetO, uRetN, uDrop, uSet, uSetO, uMove, uFrz, uNext, uBreak, uCont, uApp, uIns, uPut, uPutA, uAug, uRaise, uVar, uC, uOp, uUn, uTru, uTst, uNot, uAnd, uOr, uAndV, uOrV, uNotV, uIf, uNil, uCons, argU, uTup, uLst, allD, onDs, onD, onT, onBool, oI, oIC, oAdd, oEq, oIsN, isN_none, isN_int, isN_bool, isN_str, isN_list, isN_tup, truD, oIx, uSl, uPart, uNoP, oSl, uCB, oLen, oList, oTuple, oInt, oAbs, oAll, oAny, oSum, onB, onI, uIs, uIs2, isT, uCall, uCallP, pick, vw, vw1, okU, okX, nolU, nol, nols, startU, kOf, kQ, kT, onL, uSeqI, uRng1, uRng2, rOk, uEnum, uRep, uTupRev, uYes, ugN, ugT2, wipeU, setU, uIfQ, uRetQ, uSetQ, uPutQ, ixC, uPar, uAsgT, uChain, uCall0, sizeLine_eq, oMax2, oSortI, oStrI, oIsB, szD, List.map_cons, List.map_nil, List.length_cons, List.length_nil, List.replicate, List.cons_append, List.nil_append, List.getElem?_cons_zero, List.getElem?_cons_succ, List.set_cons_zero, List.set_cons_succ, Option.map_some, Option.map_none, List.getD, Option.getD_some, if_true, true_and, and_true, Nat.reduceAdd, Nat.reduceSub, reduceIte, Bool.false_eq_true, Bool.not_true, Bool.not_false, is_iff, eqI]
      exact hp
  split
  · next hlt =>
    refine ⟨mulC (by omega) (by omega), w0, ?_⟩
    split
    · next hd => exact next hd
    · next hd => exact hNX (m - 1) _ (by omega) ⟨k + 1, by omega, by simp, by omega, fun j j1 j2 => by
        by_cases hj : j = k
        · subst hj; exact hd
        · exact hk j j1 (by omega)⟩
  · next hge =>
    have : k = w := by omega
    exact next (this ▸ Nat.dvd_mul_right w st)
theorem sc__law_of_number : FnScope ["_law_width", "_law_told", "_law_last", "_law_made", "_law_pair", "_law_k", "_law_low", "_law_high"] ["_law_width"] (defScope s__law_of_number) := ⟨rfl, rfl, rfl, by decide +kernel, rfl, by decide +kernel, by decide +kernel⟩
def fn__law_of_number : Fn := fun as P _ => ∃ n : Nat, as = [.d (.int n)] ∧ 0 < n ∧ n ≤ 1000000 ∧ P (.d (.bool true))
theorem fac_call {n : Nat} {P : U → Prop} {PX : Ex → Prop} (h0 : 0 < n) (h1 : n ≤ 1000000) (h : P (.d (.tuple (pairsD (facsN n))))) : fn_factors_of [.d (.int n)] P PX := ⟨n, rfl, h0, by omega, h⟩
theorem sh_pairs (l : List (Nat × Nat)) : SeqAt.shaped (.tuple (pairsD l)) = true := sh_tupOf (fun x hx => by
  obtain ⟨n, _, rfl⟩ := List.mem_map.mp hx; rfl) fun x hx => by
  obtain ⟨n, _, rfl⟩ := List.mem_map.mp hx; exact (show (1 : Nat) ≤ 60 by decide)
theorem ev_pairs (l : List (Nat × Nat)) : PyData.eqv (.tuple (pairsD l)) (.tuple (pairsD l)) = true := PySem.SeqAt.eqv_refl _ (PySem.SeqAt.canLay_of_shaped (sh_pairs l))
theorem pri_D {p : Nat} (h : Pri p) (h1 : p ≤ 1000000) : priD (.int (p : Int)) = true := by
  have h2 := h.1
  have : priB p = true := (priB_iff h1).mpr ⟨h2, fun k k2 k3 k4 k5 => by
    have := Nat.mul_le_mul_right k k2
    exact h.2 k k2 (by omega) (Nat.dvd_of_mod_eq_zero k5)⟩
  simp [priD, this, show (2 : Int) ≤ p by omega]
theorem prodF_take {l : List (Nat × Nat)} {i p e : Nat} (h : l[i]? = some (p, e)) : prodF (l.take (i + 1)) = prodF (l.take i) * p ^ e := by
  rw [List.take_succ, h, prodF_app]
  simp [prodF]
theorem drop_get {l : List (Nat × Nat)} {i : Nat} {x : Nat × Nat} (h : l[i]? = some x) : l.drop i = x :: l.drop (i + 1) := by
  obtain ⟨h1, h2⟩ := List.getElem?_eq_some_iff.mp h
  rw [List.drop_eq_getElem_cons h1, h2]
theorem lowL_len (w n : Nat) : (lowL w n).length ≤ n := by
  have := List.length_filter_le (lowP w) (up 1 n)
  unfold lowL
  simp [up] at this ⊢
  exact this
theorem highL_len (w n : Nat) : (highL w n).length ≤ n := by
  have := List.length_filter_le (highP w) (up 1 n)
  unfold highL
  simp [up] at this ⊢
  exact this
theorem row_call {l m : List Nat} {P : U → Prop} {PX : Ex → Prop} (hz : l.length + m.length ≤ 16777216) (h : P (.d (.bool true))) : fn__law_row [.d (.tuple (natD (l ++ m))), .d (.list (natD l ++ natD m))] P PX :=
  ⟨l ++ m, by rw [natD_app], by rw [List.length_append]; exact hz, h⟩
theorem has__law_of_number (T : Tk P K mg) {fd_factors_of : FuncData} (h_factors_of : Has P w K mg base 1 "factors_of" s_factors_of ["many"] fn_factors_of fd_factors_of) {fd__law_row : FuncData} (h__law_row : Has P w K mg base 3 "_law_row" s__law_row ["_law_got", "_law_due"] fn__law_row fd__law_row) {fd_divisors_of : FuncData} (h_divisors_of : Has P w K mg base 2 "divisors_of" s_divisors_of ["many"] fn_divisors_of fd_divisors_of) {fd__law_tried : FuncData} (h__law_tried : Has P w K mg base 2 "_law_tried" s__law_tried ["_law_odd_here"] fn__law_tried fd__law_tried) {fd__law_whole : FuncData} (h__law_whole : Has P w K mg base 1 "_law_whole" s__law_whole ["_law_odd_here"] fn__law_whole fd__law_whole) : ∃ fd, Has P w K mg base 4 "_law_of_number" s__law_of_number ["_law_width"] fn__law_of_number fd := by
  obtain ⟨fd, F⟩ := T.f__law_of_number
  have hb := F.binds (ps := ["_law_width"]) fun _ _ _ _ _ _ us hl => match us, hl with | [_], _ => rfl
  refine ⟨fd, T.g__law_of_number, F.kp, F, hb, fnD F sc__law_of_number (by decide) fun cdv A outer s H E hr => ⟨_, _, (dss_cons (ds_set false 1 (de_own h_factors_of ⟨rfl, rfl, rfl, rfl, rfl⟩ (hr.mono (by decide)) rfl airD (da_cons (dv 0) da_nil)) sc__law_of_number.nd)
    (dss_cons (ds_if false (DW.dt (dw_or (dt_not (dt_truk (KK := K) (de_isk (KK := K) .tup (dv 1) rfl T.n_isinstance bt_isi rfl T.n_tuple bt_tuple))) (dw_or1 (dt_cmp (do_nek (KK := K) hr.units) (de_ownK0 h_factors_of ⟨rfl, rfl, rfl, rfl, rfl⟩ (hr.mono (by decide)) rfl (kb_factors_of_0 h_factors_of.fu) airD (dk_cons (dv 0) dk_nil)) (dv 1))))) (dss_one (ds_ret false de_bl)) dss_nil)
    (dss_cons (ds_set false 2 de_int sc__law_of_number.nd)
    (dss_cons (ds_set false 3 de_int sc__law_of_number.nd)
    (dss_cons (ds_for poD rfl (di_seqk (KK := K) (dv 1)) (dg_name 4 sc__law_of_number.nd) (dss_cons (ds_if false (DW.dt (dw_or (dt_not (dt_truk (KK := K) (de_isk (KK := K) .tup (dv 4) rfl T.n_isinstance bt_isi rfl T.n_tuple bt_tuple))) (dw_or (dt_cmp (do_nek (KK := K) hr.units) (de_callB (dc_lenk (KK := K)) (by rfl) T.n_len bt_len (da_cons (dv 4) da_nil)) de_int) (dw_or (dt_not (dt_truk (KK := K) (de_own h__law_tried ⟨rfl, rfl, rfl, rfl, rfl⟩ (hr.mono (by decide)) rfl airD (da_cons (de_ixk (KK := K) (dv 4) de_int) da_nil)))) (dw_or1 (dt_not (dt_truk (KK := K) (de_own h__law_whole ⟨rfl, rfl, rfl, rfl, rfl⟩ (hr.mono (by decide)) rfl airD (da_cons (de_ixk (KK := K) (dv 4) de_int) da_nil))))))))) (dss_one (ds_ret false de_bl)) dss_nil)
    (dss_cons (ds_if false (DW.dt (dw_or (dt_cmp do_le (de_ixk (KK := K) (dv 4) de_int) (dv 2)) (dw_or (dt_cmp do_lt (de_ixk (KK := K) (dv 4) de_int) de_int) (dw_or1 (dt_cmp do_gt (de_ixk (KK := K) (dv 4) de_int) de_int))))) (dss_one (ds_ret false de_bl)) dss_nil)
    (dss_cons (ds_set false 2 (de_ixk (KK := K) (dv 4) de_int) sc__law_of_number.nd)
    (dss_one (ds_for poD rfl (di_rng1 (de_ixk (KK := K) (dv 4) de_int) rfl T.n_range) (dg_name 5 sc__law_of_number.nd) (dss_one (ds_set false 3 (de_op do_mul (dv 3) (de_ixk (KK := K) (dv 4) de_int)) sc__law_of_number.nd))))))))
    (dss_cons (ds_if false (dt_cmp (do_nek (KK := K) hr.units) (dv 3) (dv 0)) (dss_one (ds_ret false de_bl)) dss_nil)
    (dss_cons (ds_setO false 6 (de_lst da_nil) sc__law_of_number.nd)
    (dss_cons (ds_setO false 7 (de_lst da_nil) sc__law_of_number.nd)
    (dss_cons (ds_for poD rfl (di_rng2 de_int de_int rfl T.n_range) (dg_name 5 sc__law_of_number.nd) (dss_one (ds_if false (DW.dt (dw_and (dt_cmp do_le (de_op do_mul (dv 5) (dv 5)) (dv 0)) (dw_and1 (dt_cmp (do_eqk (KK := K) hr.units) (de_op do_mod (de_callTy dc_int (by rfl) T.n_int bt_int (da_cons (dv 0) da_nil)) (dv 5)) de_int)))) (dss_cons (ds_appk (KK := K) false 6 (dv 5))
    (dss_one (ds_if false (dt_cmp do_lt (de_op do_mul (dv 5) (dv 5)) (dv 0)) (dss_one (ds_insk (KK := K) false 7 de_int (de_op do_fdiv (dv 0) (dv 5)))) dss_nil))) dss_nil)))
    (dss_one (ds_ret true (de_andk (KK := K) (de_own h__law_row ⟨rfl, rfl, rfl, rfl, rfl⟩ (hr.mono (by decide)) rfl airD (da_cons (de_own h_divisors_of ⟨rfl, rfl, rfl, rfl, rfl⟩ (hr.mono (by decide)) rfl airD (da_cons (dv 0) da_nil)) (da_cons (de_op (do_addk (KK := K)) (dv 6) (dv 7)) da_nil))) (de_one (de_own h__law_row ⟨rfl, rfl, rfl, rfl, rfl⟩ (hr.mono (by decide)) rfl airD (da_cons (de_ownK0 h_divisors_of ⟨rfl, rfl, rfl, rfl, rfl⟩ (hr.mono (by decide)) rfl (kb_divisors_of_0 h_divisors_of.fu) airD (dk_cons (dv 0) dk_nil)) (da_cons (de_op (do_addk (KK := K)) (dv 6) (dv 7)) da_nil)))))))))))))))), ?_⟩⟩
  rintro as Q PX hl ⟨n, rfl, h0, h1, hp⟩
  refine i_seq fun N hN => ?_
  simp [vw_jk, at_0, at_1, at_2, at_3, at_4, ix_40, ix_41, ix_42, ix_43, boolsD_comp, intsD_comp, sh_int, sh_bool, sh_none, sh_str, ev_int, ev_bool, ev_str, ev_none, ev_ni, ev_in, uIfS, evT, ev, uRet, uRetO, uRetN, uDrop, uSet, uSetO, uMove, uFrz, uNext, uBreak, uCont, uApp, uIns, uPut, uPutA, uAug, uRaise, uVar, uC, uOp, uUn, uTru, uTst, uNot, uAnd, uOr, uAndV, uOrV, uNotV, uIf, uNil, uCons, argU, uTup, uLst, allD, onDs, onD, onT, onBool, oI, oIC, oAdd, oEq, oIsN, isN_none, isN_int, isN_bool, isN_str, isN_list, isN_tup, truD, oIx, uSl, uPart, uNoP, oSl, uCB, oLen, oList, oTuple, oInt, oAbs, oAll, oAny, oSum, onB, onI, uIs, uIs2, isT, uCall, uCallP, pick, vw, vw1, okU, okX, nolU, nol, nols, startU, kOf, kQ, kT, onL, uSeqI, uRng1, uRng2, rOk, uEnum, uRep, uTupRev, uYes, ugN, ugT2, wipeU, setU, uIfQ, uRetQ, uSetQ, uPutQ, ixC, uPar, uAsgT, uChain, uCall0, sizeLine_eq, oMax2, oSortI, oStrI, oIsB, szD, List.map_cons, List.map_nil, List.length_cons, List.length_nil, List.replicate, List.cons_append, List.nil_append, List.getElem?_cons_zero, List.getElem?_cons_succ, List.set_cons_zero, List.set_cons_succ, Option.map_some, Option.map_none, List.getD, Option.getD_some, if_true, true_and, and_true, Nat.reduceAdd, Nat.reduceSub, reduceIte, Bool.false_eq_true, Bool.not_true, Bool.not_false]
  refine fac_call h0 h1 ?_
  simp [vw_jk, at_0, at_1, at_2, at_3, at_4, ix_40, ix_41, ix_42, ix_43, boolsD_comp, intsD_comp, sh_int, sh_bool, sh_none, sh_str, ev_int, ev_bool, ev_str, ev_none, ev_ni, ev_in, uIfS, evT, ev, uRet, uRetO, uRetN, uDrop, uSet, uSetO, uMove, uFrz, uNext, uBreak, uCont, uApp, uIns, uPut, uPutA, uAug, uRaise, uVar, uC, uOp, uUn, uTru, uTst, uNot, uAnd, uOr, uAndV, uOrV, uNotV, uIf, uNil, uCons, argU, uTup, uLst, allD, onDs, onD, onT, onBool, oI, oIC, oAdd, oEq, oIsN, isN_none, isN_int, isN_bool, isN_str, isN_list, isN_tup, truD, oIx, uSl, uPart, uNoP, oSl, uCB, oLen, oList, oTuple, oInt, oAbs, oAll, oAny, oSum, onB, onI, uIs, uIs2, isT, uCall, uCallP, pick, vw, vw1, okU, okX, nolU, nol, nols, startU, kOf, kQ, kT, onL, uSeqI, uRng1, uRng2, rOk, uEnum, uRep, uTupRev, uYes, ugN, ugT2, wipeU, setU, uIfQ, uRetQ, uSetQ, uPutQ, ixC, uPar, uAsgT, uChain, uCall0, sizeLine_eq, oMax2, oSortI, oStrI, oIsB, szD, List.map_cons, List.map_nil, List.length_cons, List.length_nil, List.replicate, List.cons_append, List.nil_append, List.getElem?_cons_zero, List.getElem?_cons_succ, List.set_cons_zero, List.set_cons_succ, Option.map_some, Option.map_none, List.getD, Option.getD_some, if_true, true_and, and_true, Nat.reduceAdd, Nat.reduceSub, reduceIte, Bool.false_eq_true, Bool.not_true, Bool.not_false]
  rw [hN]
  refine i_seq fun N2 hN2 => ?_
  simp [vw_jk, at_0, at_1, at_2, at_3, at_4, ix_40, ix_41, ix_42, ix_43, boolsD_comp, intsD_comp, sh_int, sh_bool, sh_none, sh_str, ev_int, ev_bool, ev_str, ev_none, ev_ni, ev_in, uIfS, evT, ev, uRet, uRetO, uRetN, uDrop, uSet, uSetO, uMove, uFrz, uNext, uBreak, uCont, uApp, uIns, uPut, uPutA, uAug, uRaise, uVar, uC, uOp, uUn, uTru, uTst, uNot, uAnd, uOr, uAndV, uOrV, uNotV, uIf, uNil, uCons, argU, uTup, uLst, allD, onDs, onD, onT, onBool, oI, oIC, oAdd, oEq, oIsN, isN_none, isN_int, isN_bool, isN_str, isN_list, isN_tup, truD, oIx, uSl, uPart, uNoP, oSl, uCB, oLen, oList, oTuple, oInt, oAbs, oAll, oAny, oSum, onB, onI, uIs, uIs2, isT, uCall, uCallP, pick, vw, vw1, okU, okX, nolU, nol, nols, startU, kOf, kQ, kT, onL, uSeqI, uRng1, uRng2, rOk, uEnum, uRep, uTupRev, uYes, ugN, ugT2, wipeU, setU, uIfQ, uRetQ, uSetQ, uPutQ, ixC, uPar, uAsgT, uChain, uCall0, sizeLine_eq, oMax2, oSortI, oStrI, oIsB, szD, List.map_cons, List.map_nil, List.length_cons, List.length_nil, List.replicate, List.cons_append, List.nil_append, List.getElem?_cons_zero, List.getElem?_cons_succ, List.set_cons_zero, List.set_cons_succ, Option.map_some, Option.map_none, List.getD, Option.getD_some, if_true, true_and, and_true, Nat.reduceAdd, Nat.reduceSub, reduceIte, Bool.false_eq_true, Bool.not_true, Bool.not_false, pick]
  refine fac_call h0 h1 ?_
  simp [vw_jk, at_0, at_1, at_2, at_3, at_4, ix_40, ix_41, ix_42, ix_43, boolsD_comp, intsD_comp, sh_int, sh_bool, sh_none, sh_str, ev_int, ev_bool, ev_str, ev_none, ev_ni, ev_in, uIfS, evT, ev, uRet, uRetO, uRetN, uDrop, uSet, uSetO, uMove, uFrz, uNext, uBreak, uCont, uApp, uIns, uPut, uPutA, uAug, uRaise, uVar, uC, uOp, uUn, uTru, uTst, uNot, uAnd, uOr, uAndV, uOrV, uNotV, uIf, uNil, uCons, argU, uTup, uLst, allD, onDs, onD, onT, onBool, oI, oIC, oAdd, oEq, oIsN, isN_none, isN_int, isN_bool, isN_str, isN_list, isN_tup, truD, oIx, uSl, uPart, uNoP, oSl, uCB, oLen, oList, oTuple, oInt, oAbs, oAll, oAny, oSum, onB, onI, uIs, uIs2, isT, uCall, uCallP, pick, vw, vw1, okU, okX, nolU, nol, nols, startU, kOf, kQ, kT, onL, uSeqI, uRng1, uRng2, rOk, uEnum, uRep, uTupRev, uYes, ugN, ugT2, wipeU, setU, uIfQ, uRetQ, uSetQ, uPutQ, ixC, uPar, uAsgT, uChain, uCall0, sizeLine_eq, oMax2, oSortI, oStrI, oIsB, szD, List.map_cons, List.map_nil, List.length_cons, List.length_nil, List.replicate, List.cons_append, List.nil_append, List.getElem?_cons_zero, List.getElem?_cons_succ, List.set_cons_zero, List.set_cons_succ, Option.map_some, Option.map_none, List.getD, Option.getD_some, if_true, true_and, and_true, Nat.reduceAdd, Nat.reduceSub, reduceIte, Bool.false_eq_true, Bool.not_true, Bool.not_false, sh_pairs]
  rw [if_pos (ev_pairs _), hN2]
  obtain ⟨hF, hB⟩ := facsN_ok h0 (show n < 2 ^ 20 by omega)
  have hmem : ∀ x ∈ facsN n, 2 ≤ x.1 ∧ x.1 ≤ 1000000 := fun x hx => by
    have := IsF.mem (B := 1000001) (by rw [hB]; omega) hF hx
    omega
  refine i_seq fun N3 hN3 => ?_
  simp [vw_jk, at_0, at_1, at_2, at_3, at_4, ix_40, ix_41, ix_42, ix_43, boolsD_comp, intsD_comp, sh_int, sh_bool, sh_none, sh_str, ev_int, ev_bool, ev_str, ev_none, ev_ni, ev_in, uIfS, evT, ev, uRet, uRetO, uRetN, uDrop, uSet, uSetO, uMove, uFrz, uNext, uBreak, uCont, uApp, uIns, uPut, uPutA, uAug, uRaise, uVar, uC, uOp, uUn, uTru, uTst, uNot, uAnd, uOr, uAndV, uOrV, uNotV, uIf, uNil, uCons, argU, uTup, uLst, allD, onDs, onD, onT, onBool, oI, oIC, oAdd, oEq, oIsN, isN_none, isN_int, isN_bool, isN_str, isN_list, isN_tup, truD, oIx, uSl, uPart, uNoP, oSl, uCB, oLen, oList, oTuple, oInt, oAbs, oAll, oAny, oSum, onB, onI, uIs, uIs2, isT, uCall, uCallP, pick, vw, vw1, okU, okX, nolU, nol, nols, startU, kOf, kQ, kT, onL, uSeqI, uRng1, uRng2, rOk, uEnum, uRep, uTupRev, uYes, ugN, ugT2, wipeU, setU, uIfQ, uRetQ, uSetQ, uPutQ, ixC, uPar, uAsgT, uChain, uCall0, sizeLine_eq, oMax2, oSortI, oStrI, oIsB, szD, List.map_cons, List.map_nil, List.length_cons, List.length_nil, List.replicate, List.cons_append, List.nil_append, List.getElem?_cons_zero, List.getElem?_cons_succ, List.set_cons_zero, List.set_cons_succ, Option.map_some, Option.map_none, List.getD, Option.getD_some, if_true, true_and, and_true, Nat.reduceAdd, Nat.reduceSub, reduceIte, Bool.false_eq_true, Bool.not_true, Bool.not_false]
  rw [hN3]
  refine i_seq fun N4 hN4 => ?_
  simp [vw_jk, at_0, at_1, at_2, at_3, at_4, ix_40, ix_41, ix_42, ix_43, boolsD_comp, intsD_comp, sh_int, sh_bool, sh_none, sh_str, ev_int, ev_bool, ev_str, ev_none, ev_ni, ev_in, uIfS, evT, ev, uRet, uRetO, uRetN, uDrop, uSet, uSetO, uMove, uFrz, uNext, uBreak, uCont, uApp, uIns, uPut, uPutA, uAug, uRaise, uVar, uC, uOp, uUn, uTru, uTst, uNot, uAnd, uOr, uAndV, uOrV, uNotV, uIf, uNil, uCons, argU, uTup, uLst, allD, onDs, onD, onT, onBool, oI, oIC, oAdd, oEq, oIsN, isN_none, isN_int, isN_bool, isN_str, isN_list, isN_tup, truD, oIx, uSl, uPart, uNoP, oSl, uCB, oLen, oList, oTuple, oInt, oAbs, oAll, oAny, oSum, onB, onI, uIs, uIs2, isT, uCall, uCallP, pick, vw, vw1, okU, okX, nolU, nol, nols, startU, kOf, kQ, kT, onL, uSeqI, uRng1, uRng2, rOk, uEnum, uRep, uTupRev, uYes, ugN, ugT2, wipeU, setU, uIfQ, uRetQ, uSetQ, uPutQ, ixC, uPar, uAsgT, uChain, uCall0, sizeLine_eq, oMax2, oSortI, oStrI, oIsB, szD, List.map_cons, List.map_nil, List.length_cons, List.length_nil, List.replicate, List.cons_append, List.nil_append, List.getElem?_cons_zero, List.getElem?_cons_succ, List.set_cons_zero, List.set_cons_succ, Option.map_some, Option.map_none, List.getD, Option.getD_some, if_true, true_and, and_true, Nat.reduceAdd, Nat.reduceSub, reduceIte, Bool.false_eq_true, Bool.not_true, Bool.not_false]
  rw [hN4]
  refine i_seq fun N5 hN5 => ?_
  refine i_for2 ?_
  simp [vw_jk, at_0, at_1, at_2, at_3, at_4, ix_40, ix_41, ix_42, ix_43, boolsD_comp, intsD_comp, sh_int, sh_bool, sh_none, sh_str, ev_int, ev_bool, ev_str, ev_none, ev_ni, ev_in, uIfS, evT, ev, uRet, uRetO, uRetN, uDrop, uSet, uSetO, uMove, uFrz, uNext, uBreak, uCont, uApp, uIns, uPut, uPutA, uAug, uRaise, uVar, uC, uOp, uUn, uTru, uTst, uNot, uAnd, uOr, uAndV, uOrV, uNotV, uIf, uNil, uCons, argU, uTup, uLst, allD, onDs, onD, onT, onBool, oI, oIC, oAdd, oEq, oIsN, isN_none, isN_int, isN_bool, isN_str, isN_list, isN_tup, truD, oIx, uSl, uPart, uNoP, oSl, uCB, oLen, oList, oTuple, oInt, oAbs, oAll, oAny, oSum, onB, onI, uIs, uIs2, isT, uCall, uCallP, pick, vw, vw1, okU, okX, nolU, nol, nols, startU, kOf, kQ, kT, onL, uSeqI, uRng1, uRng2, rOk, uEnum, uRep, uTupRev, uYes, ugN, ugT2, wipeU, setU, uIfQ, uRetQ, uSetQ, uPutQ, ixC, uPar, uAsgT, uChain, uCall0, sizeLine_eq, oMax2, oSortI, oStrI, oIsB, szD, List.map_cons, List.map_nil, List.length_cons, List.length_nil, List.replicate, List.cons_append, List.nil_append, List.getElem?_cons_zero, List.getElem?_cons_succ, List.set_cons_zero, List.set_cons_succ, Option.map_some, Option.map_none, List.getD, Option.getD_some, if_true, true_and, and_true, Nat.reduceAdd, Nat.reduceSub, reduceIte, Bool.false_eq_true, Bool.not_true, Bool.not_false]
  refine f_in (fun i s' => ∃ (la : Nat) (o1 o2 : Option D), s' = [some (.d (.int n)), some (.d (.tuple (pairsD (facsN n)))), some (.d (.int la)), some (.d (.int (prodF ((facsN n).take i) : Nat))), jk o1, jk o2, none, none] ∧ 1 ≤ la ∧ IsF (la + 1) ((facsN n).drop i)) ⟨1, none, none, rfl, by decide, hF⟩ (fun i d s' e hi hs NX hNX => ?_) (fun s' hs => ?_)
  · obtain ⟨la, o1, o2, rfl, la1, hla⟩ := hs
    unfold pairsD at e
    rw [List.getElem?_map] at e
    obtain ⟨⟨p, x⟩, h2, rfl⟩ := Option.map_eq_some_iff.mp e
    rw [drop_get h2] at hla
    obtain ⟨b1, b2, b3, b4, b5⟩ := hla
    have hp6 := (hmem _ (List.mem_of_getElem? h2)).2
    simp at hp6
    refine ⟨_, rfl, ?_⟩
    refine i_seq fun M1 hM1 => ?_
    simp [vw_jk, at_0, at_1, at_2, at_3, at_4, ix_40, ix_41, ix_42, ix_43, boolsD_comp, intsD_comp, sh_int, sh_bool, sh_none, sh_str, ev_int, ev_bool, ev_str, ev_none, ev_ni, ev_in, uIfS, evT, ev, uRet, uRetO, uRetN, uDrop, uSet, uSetO, uMove, uFrz, uNext, uBreak, uCont, uApp, uIns, uPut, uPutA, uAug, uRaise, uVar, uC, uOp, uUn, uTru, uTst, uNot, uAnd, uOr, uAndV, uOrV, uNotV, uIf, uNil, uCons, argU, uTup, uLst, allD, onDs, onD, onT, onBool, oI, oIC, oAdd, oEq, oIsN, isN_none, isN_int, isN_bool, isN_str, isN_list, isN_tup, truD, oIx, uSl, uPart, uNoP, oSl, uCB, oLen, oList, oTuple, oInt, oAbs, oAll, oAny, oSum, onB, onI, uIs, uIs2, isT, uCall, uCallP, pick, vw, vw1, okU, okX, nolU, nol, nols, startU, kOf, kQ, kT, onL, uSeqI, uRng1, uRng2, rOk, uEnum, uRep, uTupRev, uYes, ugN, ugT2, wipeU, setU, uIfQ, uRetQ, uSetQ, uPutQ, ixC, uPar, uAsgT, uChain, uCall0, sizeLine_eq, oMax2, oSortI, oStrI, oIsB, szD, List.map_cons, List.map_nil, List.length_cons, List.length_nil, List.replicate, List.cons_append, List.nil_append, List.getElem?_cons_zero, List.getElem?_cons_succ, List.set_cons_zero, List.set_cons_succ, Option.map_some, Option.map_none, List.getD, Option.getD_some, if_true, true_and, and_true, Nat.reduceAdd, Nat.reduceSub, reduceIte, Bool.false_eq_true, Bool.not_true, Bool.not_false, pairD]
    refine ⟨.int p, rfl, fun i hi => by cases hi; omega, ?_⟩
    simp [vw_jk, at_0, at_1, at_2, at_3, at_4, ix_40, ix_41, ix_42, ix_43, boolsD_comp, intsD_comp, sh_int, sh_bool, sh_none, sh_str, ev_int, ev_bool, ev_str, ev_none, ev_ni, ev_in, uIfS, evT, ev, uRet, uRetO, uRetN, uDrop, uSet, uSetO, uMove, uFrz, uNext, uBreak, uCont, uApp, uIns, uPut, uPutA, uAug, uRaise, uVar, uC, uOp, uUn, uTru, uTst, uNot, uAnd, uOr, uAndV, uOrV, uNotV, uIf, uNil, uCons, argU, uTup, uLst, allD, onDs, onD, onT, onBool, oI, oIC, oAdd, oEq, oIsN, isN_none, isN_int, isN_bool, isN_str, isN_list, isN_tup, truD, oIx, uSl, uPart, uNoP, oSl, uCB, oLen, oList, oTuple, oInt, oAbs, oAll, oAny, oSum, onB, onI, uIs, uIs2, isT, uCall, uCallP, pick, vw, vw1, okU, okX, nolU, nol, nols, startU, kOf, kQ, kT, onL, uSeqI, uRng1, uRng2, rOk, uEnum, uRep, uTupRev, uYes, ugN, ugT2, wipeU, setU, uIfQ, uRetQ, uSetQ, uPutQ, ixC, uPar, uAsgT, uChain, uCall0, sizeLine_eq, oMax2, oSortI, oStrI, oIsB, szD, List.map_cons, List.map_nil, List.length_cons, List.length_nil, List.replicate, List.cons_append, List.nil_append, List.getElem?_cons_zero, List.getElem?_cons_succ, List.set_cons_zero, List.set_cons_succ, Option.map_some, Option.map_none, List.getD, Option.getD_some, if_true, true_and, and_true, Nat.reduceAdd, Nat.reduceSub, reduceIte, Bool.false_eq_true, Bool.not_true, Bool.not_false, pri_D b2 hp6, whole_iff, isI]
    rw [hM1]
    refine i_seq fun M2 hM2 => ?_
    have t1 : ¬ (p : Int) ≤ la := by omega
    have t2 : ¬ (x : Int) < 1 := by omega
    have t3 : ¬ (20 : Int) < x := by omega
    simp [vw_jk, at_0, at_1, at_2, at_3, at_4, ix_40, ix_41, ix_42, ix_43, boolsD_comp, intsD_comp, sh_int, sh_bool, sh_none, sh_str, ev_int, ev_bool, ev_str, ev_none, ev_ni, ev_in, uIfS, evT, ev, uRet, uRetO, uRetN, uDrop, uSet, uSetO, uMove, uFrz, uNext, uBreak, uCont, uApp, uIns, uPut, uPutA, uAug, uRaise, uVar, uC, uOp, uUn, uTru, uTst, uNot, uAnd, uOr, uAndV, uOrV, uNotV, uIf, uNil, uCons, argU, uTup, uLst, allD, onDs, onD, onT, onBool, oI, oIC, oAdd, oEq, oIsN, isN_none, isN_int, isN_bool, isN_str, isN_list, isN_tup, truD, oIx, uSl, uPart, uNoP, oSl, uCB, oLen, oList, oTuple, oInt, oAbs, oAll, oAny, oSum, onB, onI, uIs, uIs2, isT, uCall, uCallP, pick, vw, vw1, okU, okX, nolU, nol, nols, startU, kOf, kQ, kT, onL, uSeqI, uRng1, uRng2, rOk, uEnum, uRep, uTupRev, uYes, ugN, ugT2, wipeU, setU, uIfQ, uRetQ, uSetQ, uPutQ, ixC, uPar, uAsgT, uChain, uCall0, sizeLine_eq, oMax2, oSortI, oStrI, oIsB, szD, List.map_cons, List.map_nil, List.length_cons, List.length_nil, List.replicate, List.cons_append, List.nil_append, List.getElem?_cons_zero, List.getElem?_cons_succ, List.set_cons_zero, List.set_cons_succ, Option.map_some, Option.map_none, List.getD, Option.getD_some, if_true, true_and, and_true, Nat.reduceAdd, Nat.reduceSub, reduceIte, Bool.false_eq_true, Bool.not_true, Bool.not_false, pairD, t1, t2, t3]
    rw [hM2]
    refine i_seq fun M3 hM3 => ?_
    simp [vw_jk, at_0, at_1, at_2, at_3, at_4, ix_40, ix_41, ix_42, ix_43, boolsD_comp, intsD_comp, sh_int, sh_bool, sh_none, sh_str, ev_int, ev_bool, ev_str, ev_none, ev_ni, ev_in, uIfS, evT, ev, uRet, uRetO, uRetN, uDrop, uSet, uSetO, uMove, uFrz, uNext, uBreak, uCont, uApp, uIns, uPut, uPutA, uAug, uRaise, uVar, uC, uOp, uUn, uTru, uTst, uNot, uAnd, uOr, uAndV, uOrV, uNotV, uIf, uNil, uCons, argU, uTup, uLst, allD, onDs, onD, onT, onBool, oI, oIC, oAdd, oEq, oIsN, isN_none, isN_int, isN_bool, isN_str, isN_list, isN_tup, truD, oIx, uSl, uPart, uNoP, oSl, uCB, oLen, oList, oTuple, oInt, oAbs, oAll, oAny, oSum, onB, onI, uIs, uIs2, isT, uCall, uCallP, pick, vw, vw1, okU, okX, nolU, nol, nols, startU, kOf, kQ, kT, onL, uSeqI, uRng1, uRng2, rOk, uEnum, uRep, uTupRev, uYes, ugN, ugT2, wipeU, setU, uIfQ, uRetQ, uSetQ, uPutQ, ixC, uPar, uAsgT, uChain, uCall0, sizeLine_eq, oMax2, oSortI, oStrI, oIsB, szD, List.map_cons, List.map_nil, List.length_cons, List.length_nil, List.replicate, List.cons_append, List.nil_append, List.getElem?_cons_zero, List.getElem?_cons_succ, List.set_cons_zero, List.set_cons_succ, Option.map_some, Option.map_none, List.getD, Option.getD_some, if_true, true_and, and_true, Nat.reduceAdd, Nat.reduceSub, reduceIte, Bool.false_eq_true, Bool.not_true, Bool.not_false]
    rw [hM3]
    refine i_for2 ?_
    simp [vw_jk, at_0, at_1, at_2, at_3, at_4, ix_40, ix_41, ix_42, ix_43, boolsD_comp, intsD_comp, sh_int, sh_bool, sh_none, sh_str, ev_int, ev_bool, ev_str, ev_none, ev_ni, ev_in, uIfS, evT, ev, uRet, uRetO, uRetN, uDrop, uSet, uSetO, uMove, uFrz, uNext, uBreak, uCont, uApp, uIns, uPut, uPutA, uAug, uRaise, uVar, uC, uOp, uUn, uTru, uTst, uNot, uAnd, uOr, uAndV, uOrV, uNotV, uIf, uNil, uCons, argU, uTup, uLst, allD, onDs, onD, onT, onBool, oI, oIC, oAdd, oEq, oIsN, isN_none, isN_int, isN_bool, isN_str, isN_list, isN_tup, truD, oIx, uSl, uPart, uNoP, oSl, uCB, oLen, oList, oTuple, oInt, oAbs, oAll, oAny, oSum, onB, onI, uIs, uIs2, isT, uCall, uCallP, pick, vw, vw1, okU, okX, nolU, nol, nols, startU, kOf, kQ, kT, onL, uSeqI, uRng1, uRng2, rOk, uEnum, uRep, uTupRev, uYes, ugN, ugT2, wipeU, setU, uIfQ, uRetQ, uSetQ, uPutQ, ixC, uPar, uAsgT, uChain, uCall0, sizeLine_eq, oMax2, oSortI, oStrI, oIsB, szD, List.map_cons, List.map_nil, List.length_cons, List.length_nil, List.replicate, List.cons_append, List.nil_append, List.getElem?_cons_zero, List.getElem?_cons_succ, List.set_cons_zero, List.set_cons_succ, Option.map_some, Option.map_none, List.getD, Option.getD_some, if_true, true_and, and_true, Nat.reduceAdd, Nat.reduceSub, reduceIte, Bool.false_eq_true, Bool.not_true, Bool.not_false]
    refine ⟨by omega, ?_⟩
    refine f_in (fun j s' => ∃ (o2 : Option D), s' = [some (.d (.int n)), some (.d (.tuple (pairsD (facsN n)))), some (.d (.int p)), some (.d (.int (prodF ((facsN n).take i) * p ^ j : Nat))), some (.d (.tuple [.int p, .int x])), jk o2, none, none]) ⟨o2, by simp⟩ (fun j d s' e hj hs NX2 hNX2 => ?_) (fun s' hs => ?_)
    · obtain ⟨o2, rfl⟩ := hs
      simp only [vw_jk, at_0, at_1, at_2, at_3, at_4, ix_40, ix_41, ix_42, ix_43, boolsD_comp, intsD_comp, sh_int, sh_bool, sh_none, sh_str, ev_int, ev_bool, ev_str, ev_none, ev_ni, ev_in, uIfS, evT, ev, uRet, uRetO, uRetN, uDrop, uSet, uSetO, uMove, uFrz, uNext, uBreak, uCont, uApp, uIns, uPut, uPutA, uAug, uRaise, uVar, uC, uOp, uUn, uTru, uTst, uNot, uAnd, uOr, uAndV, uOrV, uNotV, uIf, uNil, uCons, argU, uTup, uLst, allD, onDs, onD, onT, onBool, oI, oIC, oAdd, oEq, oIsN, isN_none, isN_int, isN_bool, isN_str, isN_list, isN_tup, truD, oIx, uSl, uPart, uNoP, oSl, uCB, oLen, oList, oTuple, oInt, oAbs, oAll, oAny, oSum, onB, onI, uIs, uIs2, isT, uCall, uCallP, pick, vw, vw1, okU, okX, nolU, nol, nols, startU, kOf, kQ, kT, onL, uSeqI, uRng1, uRng2, rOk, uEnum, uRep, uTupRev, uYes, ugN, ugT2, wipeU, setU, uIfQ, uRetQ, uSetQ, uPutQ, ixC, uPar, uAsgT, uChain, uCall0, sizeLine_eq, oMax2, oSortI, oStrI, oIsB, szD, List.map_cons, List.map_nil, List.length_cons, List.length_nil, List.replicate, List.cons_append, List.nil_append, List.getElem?_cons_zero, List.getElem?_cons_succ, List.set_cons_zero, List.set_cons_succ, Option.map_some, Option.map_none, List.getD, Option.getD_some, if_true, true_and, and_true, Nat.reduceAdd, Nat.reduceSub, reduceIte, Bool.false_eq_true, Bool.not_true, Bool.not_false]
      refine ⟨_, rfl, ?_⟩
      simp only [vw_jk, at_0, at_1, at_2, at_3, at_4, ix_40, ix_41, ix_42, ix_43, boolsD_comp, intsD_comp, sh_int, sh_bool, sh_none, sh_str, ev_int, ev_bool, ev_str, ev_none, ev_ni, ev_in, uIfS, evT, ev, uRet, uRetO, uRetN, uDrop, uSet, uSetO, uMove, uFrz, uNext, uBreak, uCont, uApp, uIns, uPut, uPutA, uAug, uRaise, uVar, uC, uOp, uUn, uTru, uTst, uNot, uAnd, uOr, uAndV, uOrV, uNotV, uIf, uNil, uCons, argU, uTup, uLst, allD, onDs, onD, onT, onBool, oI, oIC, oAdd, oEq, oIsN, isN_none, isN_int, isN_bool, isN_str, isN_list, isN_tup, truD, oIx, uSl, uPart, uNoP, oSl, uCB, oLen, oList, oTuple, oInt, oAbs, oAll, oAny, oSum, onB, onI, uIs, uIs2, isT, uCall, uCallP, pick, vw, vw1, okU, okX, nolU, nol, nols, startU, kOf, kQ, kT, onL, uSeqI, uRng1, uRng2, rOk, uEnum, uRep, uTupRev, uYes, ugN, ugT2, wipeU, setU, uIfQ, uRetQ, uSetQ, uPutQ, ixC, uPar, uAsgT, uChain, uCall0, sizeLine_eq, oMax2, oSortI, oStrI, oIsB, szD, List.map_cons, List.map_nil, List.length_cons, List.length_nil, List.replicate, List.cons_append, List.nil_append, List.getElem?_cons_zero, List.getElem?_cons_succ, List.set_cons_zero, List.set_cons_succ, Option.map_some, Option.map_none, List.getD, Option.getD_some, if_true, true_and, and_true, Nat.reduceAdd, Nat.reduceSub, reduceIte, Bool.false_eq_true, Bool.not_true, Bool.not_false]
      refine ⟨mulR (by omega), hNX2 _ ⟨some d, ?_⟩⟩
      rw [Nat.pow_succ, ← Nat.mul_assoc, Int.natCast_mul]
      rfl
    · obtain ⟨o2, rfl⟩ := hs
      rw [rngD_len]
      refine hNX _ ⟨p, some (pairD (p, x)), o2, ?_, by omega, b5⟩
      rw [prodF_take h2]
      rfl
  · obtain ⟨la, o1, o2, rfl, la1, hla⟩ := hs
    show N5 _
    rw [pairsD_len, List.take_length, hB, hN5]
    refine i_seq fun N6 hN6 => ?_
    simp [vw_jk, at_0, at_1, at_2, at_3, at_4, ix_40, ix_41, ix_42, ix_43, boolsD_comp, intsD_comp, sh_int, sh_bool, sh_none, sh_str, ev_int, ev_bool, ev_str, ev_none, ev_ni, ev_in, uIfS, evT, ev, uRet, uRetO, uRetN, uDrop, uSet, uSetO, uMove, uFrz, uNext, uBreak, uCont, uApp, uIns, uPut, uPutA, uAug, uRaise, uVar, uC, uOp, uUn, uTru, uTst, uNot, uAnd, uOr, uAndV, uOrV, uNotV, uIf, uNil, uCons, argU, uTup, uLst, allD, onDs, onD, onT, onBool, oI, oIC, oAdd, oEq, oIsN, isN_none, isN_int, isN_bool, isN_str, isN_list, isN_tup, truD, oIx, uSl, uPart, uNoP, oSl, uCB, oLen, oList, oTuple, oInt, oAbs, oAll, oAny, oSum, onB, onI, uIs, uIs2, isT, uCall, uCallP, pick, vw, vw1, okU, okX, nolU, nol, nols, startU, kOf, kQ, kT, onL, uSeqI, uRng1, uRng2, rOk, uEnum, uRep, uTupRev, uYes, ugN, ugT2, wipeU, setU, uIfQ, uRetQ, uSetQ, uPutQ, ixC, uPar, uAsgT, uChain, uCall0, sizeLine_eq, oMax2, oSortI, oStrI, oIsB, szD, List.map_cons, List.map_nil, List.length_cons, List.length_nil, List.replicate, List.cons_append, List.nil_append, List.getElem?_cons_zero, List.getElem?_cons_succ, List.set_cons_zero, List.set_cons_succ, Option.map_some, Option.map_none, List.getD, Option.getD_some, if_true, true_and, and_true, Nat.reduceAdd, Nat.reduceSub, reduceIte, Bool.false_eq_true, Bool.not_true, Bool.not_false]
    rw [hN6]
    refine i_seq fun N7 hN7 => ?_
    simp [vw_jk, at_0, at_1, at_2, at_3, at_4, ix_40, ix_41, ix_42, ix_43, boolsD_comp, intsD_comp, sh_int, sh_bool, sh_none, sh_str, ev_int, ev_bool, ev_str, ev_none, ev_ni, ev_in, uIfS, evT, ev, uRet, uRetO, uRetN, uDrop, uSet, uSetO, uMove, uFrz, uNext, uBreak, uCont, uApp, uIns, uPut, uPutA, uAug, uRaise, uVar, uC, uOp, uUn, uTru, uTst, uNot, uAnd, uOr, uAndV, uOrV, uNotV, uIf, uNil, uCons, argU, uTup, uLst, allD, onDs, onD, onT, onBool, oI, oIC, oAdd, oEq, oIsN, isN_none, isN_int, isN_bool, isN_str, isN_list, isN_tup, truD, oIx, uSl, uPart, uNoP, oSl, uCB, oLen, oList, oTuple, oInt, oAbs, oAll, oAny, oSum, onB, onI, uIs, uIs2, isT, uCall, uCallP, pick, vw, vw1, okU, okX, nolU, nol, nols, startU, kOf, kQ, kT, onL, uSeqI, uRng1, uRng2, rOk, uEnum, uRep, uTupRev, uYes, ugN, ugT2, wipeU, setU, uIfQ, uRetQ, uSetQ, uPutQ, ixC, uPar, uAsgT, uChain, uCall0, sizeLine_eq, oMax2, oSortI, oStrI, oIsB, szD, List.map_cons, List.map_nil, List.length_cons, List.length_nil, List.replicate, List.cons_append, List.nil_append, List.getElem?_cons_zero, List.getElem?_cons_succ, List.set_cons_zero, List.set_cons_succ, Option.map_some, Option.map_none, List.getD, Option.getD_some, if_true, true_and, and_true, Nat.reduceAdd, Nat.reduceSub, reduceIte, Bool.false_eq_true, Bool.not_true, Bool.not_false]
    rw [hN7]
    refine i_seq fun N8 hN8 => ?_
    simp [vw_jk, at_0, at_1, at_2, at_3, at_4, ix_40, ix_41, ix_42, ix_43, boolsD_comp, intsD_comp, sh_int, sh_bool, sh_none, sh_str, ev_int, ev_bool, ev_str, ev_none, ev_ni, ev_in, uIfS, evT, ev, uRet, uRetO, uRetN, uDrop, uSet, uSetO, uMove, uFrz, uNext, uBreak, uCont, uApp, uIns, uPut, uPutA, uAug, uRaise, uVar, uC, uOp, uUn, uTru, uTst, uNot, uAnd, uOr, uAndV, uOrV, uNotV, uIf, uNil, uCons, argU, uTup, uLst, allD, onDs, onD, onT, onBool, oI, oIC, oAdd, oEq, oIsN, isN_none, isN_int, isN_bool, isN_str, isN_list, isN_tup, truD, oIx, uSl, uPart, uNoP, oSl, uCB, oLen, oList, oTuple, oInt, oAbs, oAll, oAny, oSum, onB, onI, uIs, uIs2, isT, uCall, uCallP, pick, vw, vw1, okU, okX, nolU, nol, nols, startU, kOf, kQ, kT, onL, uSeqI, uRng1, uRng2, rOk, uEnum, uRep, uTupRev, uYes, ugN, ugT2, wipeU, setU, uIfQ, uRetQ, uSetQ, uPutQ, ixC, uPar, uAsgT, uChain, uCall0, sizeLine_eq, oMax2, oSortI, oStrI, oIsB, szD, List.map_cons, List.map_nil, List.length_cons, List.length_nil, List.replicate, List.cons_append, List.nil_append, List.getElem?_cons_zero, List.getElem?_cons_succ, List.set_cons_zero, List.set_cons_succ, Option.map_some, Option.map_none, List.getD, Option.getD_some, if_true, true_and, and_true, Nat.reduceAdd, Nat.reduceSub, reduceIte, Bool.false_eq_true, Bool.not_true, Bool.not_false]
    rw [hN8]
    refine i_seq fun N9 hN9 => ?_
    refine i_for2 ?_
    simp [vw_jk, at_0, at_1, at_2, at_3, at_4, ix_40, ix_41, ix_42, ix_43, boolsD_comp, intsD_comp, sh_int, sh_bool, sh_none, sh_str, ev_int, ev_bool, ev_str, ev_none, ev_ni, ev_in, uIfS, evT, ev, uRet, uRetO, uRetN, uDrop, uSet, uSetO, uMove, uFrz, uNext, uBreak, uCont, uApp, uIns, uPut, uPutA, uAug, uRaise, uVar, uC, uOp, uUn, uTru, uTst, uNot, uAnd, uOr, uAndV, uOrV, uNotV, uIf, uNil, uCons, argU, uTup, uLst, allD, onDs, onD, onT, onBool, oI, oIC, oAdd, oEq, oIsN, isN_none, isN_int, isN_bool, isN_str, isN_list, isN_tup, truD, oIx, uSl, uPart, uNoP, oSl, uCB, oLen, oList, oTuple, oInt, oAbs, oAll, oAny, oSum, onB, onI, uIs, uIs2, isT, uCall, uCallP, pick, vw, vw1, okU, okX, nolU, nol, nols, startU, kOf, kQ, kT, onL, uSeqI, uRng1, uRng2, rOk, uEnum, uRep, uTupRev, uYes, ugN, ugT2, wipeU, setU, uIfQ, uRetQ, uSetQ, uPutQ, ixC, uPar, uAsgT, uChain, uCall0, sizeLine_eq, oMax2, oSortI, oStrI, oIsB, szD, List.map_cons, List.map_nil, List.length_cons, List.length_nil, List.replicate, List.cons_append, List.nil_append, List.getElem?_cons_zero, List.getElem?_cons_succ, List.set_cons_zero, List.set_cons_succ, Option.map_some, Option.map_none, List.getD, Option.getD_some, if_true, true_and, and_true, Nat.reduceAdd, Nat.reduceSub, reduceIte, Bool.false_eq_true, Bool.not_true, Bool.not_false]
    refine f_in (fun i s' => ∃ (o2 : Option D), s' = [some (.d (.int n)), some (.d (.tuple (pairsD (facsN n)))), some (.d (.int la)), some (.d (.int n)), jk o1, jk o2, some (.own (natD (lowL n i))), some (.own (natD (highL n i)))]) ⟨o2, rfl⟩ (fun i d s' e hi hs NX hNX => ?_) (fun s' hs => ?_)
    · obtain ⟨o2, rfl⟩ := hs
      obtain ⟨rfl, hi⟩ := get_rngD e
      refine ⟨_, rfl, ?_⟩
      have hi : i < 1000 := by simpa [rngD_len] using hi
      have ek : ((1 : Int) + i) = ((i + 1 : Nat) : Int) := by omega
      rw [ek]
      have l1 := lowL_len n i
      have l2 := highL_len n i
      have e1 : (((i + 1 : Nat) : Int) * ((i + 1 : Nat) : Int) ≤ n) ↔ (i + 1) * (i + 1) ≤ n := by
        rw [← Int.natCast_mul]; exact Int.ofNat_le
      have e2 : ((n : Int) % ((i + 1 : Nat) : Int) = 0) ↔ n % (i + 1) = 0 := by
        rw [← Int.natCast_emod]; omega
      have e3 : (((i + 1 : Nat) : Int) * ((i + 1 : Nat) : Int) < n) ↔ (i + 1) * (i + 1) < n := by
        rw [← Int.natCast_mul]; exact Int.ofNat_lt
      have e4 : (n : Int) / ((i + 1 : Nat) : Int) = ((n / (i + 1) : Nat) : Int) := rfl
      generalize hkk : i + 1 = k at *
      have hk2 : lowL n k = lowL n i ++ if lowP n k = true then [k] else [] := by rw [← hkk]; exact lowL_succ n i
      have hk3 : highL n k = (if highP n k = true then [n / k] else []) ++ highL n i := by rw [← hkk]; exact highL_succ n i
      simp [vw_jk, at_0, at_1, at_2, at_3, at_4, ix_40, ix_41, ix_42, ix_43, boolsD_comp, intsD_comp, sh_int, sh_bool, sh_none, sh_str, ev_int, ev_bool, ev_str, ev_none, ev_ni, ev_in, uIfS, evT, ev, uRet, uRetO, uRetN, uDrop, uSet, uSetO, uMove, uFrz, uNext, uBreak, uCont, uApp, uIns, uPut, uPutA, uAug, uRaise, uVar, uC, uOp, uUn, uTru, uTst, uNot, uAnd, uOr, uAndV, uOrV, uNotV, uIf, uNil, uCons, argU, uTup, uLst, allD, onDs, onD, onT, onBool, oI, oIC, oAdd, oEq, oIsN, isN_none, isN_int, isN_bool, isN_str, isN_list, isN_tup, truD, oIx, uSl, uPart, uNoP, oSl, uCB, oLen, oList, oTuple, oInt, oAbs, oAll, oAny, oSum, onB, onI, uIs, uIs2, isT, uCall, uCallP, pick, vw, vw1, okU, okX, nolU, nol, nols, startU, kOf, kQ, kT, onL, uSeqI, uRng1, uRng2, rOk, uEnum, uRep, uTupRev, uYes, ugN, ugT2, wipeU, setU, uIfQ, uRetQ, uSetQ, uPutQ, ixC, uPar, uAsgT, uChain, uCall0, sizeLine_eq, oMax2, oSortI, oStrI, oIsB, szD, List.map_cons, List.map_nil, List.length_cons, List.length_nil, List.replicate, List.cons_append, List.nil_append, List.getElem?_cons_zero, List.getElem?_cons_succ, List.set_cons_zero, List.set_cons_succ, Option.map_some, Option.map_none, List.getD, Option.getD_some, if_true, true_and, and_true, Nat.reduceAdd, Nat.reduceSub, reduceIte, Bool.false_eq_true, Bool.not_true, Bool.not_false]
      refine ⟨mulR (by omega), ?_⟩
      simp only [e1, e2]
      by_cases c1 : k * k ≤ n
      · rw [if_pos c1]
        refine ⟨by omega, ?_⟩
        by_cases c2 : n % k = 0
        · rw [if_pos c2]
          have lp : lowP n k = true := by unfold lowP; rw [decide_eq_true c1, decide_eq_true c2]; rfl
          rw [if_pos lp] at hk2
          refine i_seq fun M1 hM1 => ?_
          simp [vw_jk, at_0, at_1, at_2, at_3, at_4, ix_40, ix_41, ix_42, ix_43, boolsD_comp, intsD_comp, sh_int, sh_bool, sh_none, sh_str, ev_int, ev_bool, ev_str, ev_none, ev_ni, ev_in, uIfS, evT, ev, uRet, uRetO, uRetN, uDrop, uSet, uSetO, uMove, uFrz, uNext, uBreak, uCont, uApp, uIns, uPut, uPutA, uAug, uRaise, uVar, uC, uOp, uUn, uTru, uTst, uNot, uAnd, uOr, uAndV, uOrV, uNotV, uIf, uNil, uCons, argU, uTup, uLst, allD, onDs, onD, onT, onBool, oI, oIC, oAdd, oEq, oIsN, isN_none, isN_int, isN_bool, isN_str, isN_list, isN_tup, truD, oIx, uSl, uPart, uNoP, oSl, uCB, oLen, oList, oTuple, oInt, oAbs, oAll, oAny, oSum, onB, onI, uIs, uIs2, isT, uCall, uCallP, pick, vw, vw1, okU, okX, nolU, nol, nols, startU, kOf, kQ, kT, onL, uSeqI, uRng1, uRng2, rOk, uEnum, uRep, uTupRev, uYes, ugN, ugT2, wipeU, setU, uIfQ, uRetQ, uSetQ, uPutQ, ixC, uPar, uAsgT, uChain, uCall0, sizeLine_eq, oMax2, oSortI, oStrI, oIsB, szD, List.map_cons, List.map_nil, List.length_cons, List.length_nil, List.replicate, List.cons_append, List.nil_append, List.getElem?_cons_zero, List.getElem?_cons_succ, List.set_cons_zero, List.set_cons_succ, Option.map_some, Option.map_none, List.getD, Option.getD_some, if_true, true_and, and_true, Nat.reduceAdd, Nat.reduceSub, reduceIte, Bool.false_eq_true, Bool.not_true, Bool.not_false, natD_len]
          refine ⟨by omega, ?_⟩
          rw [hM1]
          simp [vw_jk, at_0, at_1, at_2, at_3, at_4, ix_40, ix_41, ix_42, ix_43, boolsD_comp, intsD_comp, sh_int, sh_bool, sh_none, sh_str, ev_int, ev_bool, ev_str, ev_none, ev_ni, ev_in, uIfS, evT, ev, uRet, uRetO, uRetN, uDrop, uSet, uSetO, uMove, uFrz, uNext, uBreak, uCont, uApp, uIns, uPut, uPutA, uAug, uRaise, uVar, uC, uOp, uUn, uTru, uTst, uNot, uAnd, uOr, uAndV, uOrV, uNotV, uIf, uNil, uCons, argU, uTup, uLst, allD, onDs, onD, onT, onBool, oI, oIC, oAdd, oEq, oIsN, isN_none, isN_int, isN_bool, isN_str, isN_list, isN_tup, truD, oIx, uSl, uPart, uNoP, oSl, uCB, oLen, oList, oTuple, oInt, oAbs, oAll, oAny, oSum, onB, onI, uIs, uIs2, isT, uCall, uCallP, pick, vw, vw1, okU, okX, nolU, nol, nols, startU, kOf, kQ, kT, onL, uSeqI, uRng1, uRng2, rOk, uEnum, uRep, uTupRev, uYes, ugN, ugT2, wipeU, setU, uIfQ, uRetQ, uSetQ, uPutQ, ixC, uPar, uAsgT, uChain, uCall0, sizeLine_eq, oMax2, oSortI, oStrI, oIsB, szD, List.map_cons, List.map_nil, List.length_cons, List.length_nil, List.replicate, List.cons_append, List.nil_append, List.getElem?_cons_zero, List.getElem?_cons_succ, List.set_cons_zero, List.set_cons_succ, Option.map_some, Option.map_none, List.getD, Option.getD_some, if_true, true_and, and_true, Nat.reduceAdd, Nat.reduceSub, reduceIte, Bool.false_eq_true, Bool.not_true, Bool.not_false]
          refine ⟨mulR (by omega), ?_⟩
          simp only [e3]
          have ea : natD (lowL n i) ++ [PyData.int (k : Nat)] = natD (lowL n k) := by rw [hk2, natD_app]; rfl
          by_cases c3 : k * k < n
          · rw [if_pos c3]
            have hp' : highP n k = true := by unfold highP; rw [lp, decide_eq_true c3]; rfl
            rw [if_pos hp'] at hk3
            refine ⟨divS (by omega) (by omega), ?_⟩
            have eb : PyData.int ((n : Int) / (k : Int)) :: natD (highL n i) = natD (highL n k) := by rw [hk3, natD_app, e4]; rfl
            simp [vw_jk, at_0, at_1, at_2, at_3, at_4, ix_40, ix_41, ix_42, ix_43, boolsD_comp, intsD_comp, sh_int, sh_bool, sh_none, sh_str, ev_int, ev_bool, ev_str, ev_none, ev_ni, ev_in, uIfS, evT, ev, uRet, uRetO, uRetN, uDrop, uSet, uSetO, uMove, uFrz, uNext, uBreak, uCont, uApp, uIns, uPut, uPutA, uAug, uRaise, uVar, uC, uOp, uUn, uTru, uTst, uNot, uAnd, uOr, uAndV, uOrV, uNotV, uIf, uNil, uCons, argU, uTup, uLst, allD, onDs, onD, onT, onBool, oI, oIC, oAdd, oEq, oIsN, isN_none, isN_int, isN_bool, isN_str, isN_list, isN_tup, truD, oIx, uSl, uPart, uNoP, oSl, uCB, oLen, oList, oTuple, oInt, oAbs, oAll, oAny, oSum, onB, onI, uIs, uIs2, isT, uCall, uCallP, pick, vw, vw1, okU, okX, nolU, nol, nols, startU, kOf, kQ, kT, onL, uSeqI, uRng1, uRng2, rOk, uEnum, uRep, uTupRev, uYes, ugN, ugT2, wipeU, setU, uIfQ, uRetQ, uSetQ, uPutQ, ixC, uPar, uAsgT, uChain, uCall0, sizeLine_eq, oMax2, oSortI, oStrI, oIsB, szD, List.map_cons, List.map_nil, List.length_cons, List.length_nil, List.replicate, List.cons_append, List.nil_append, List.getElem?_cons_zero, List.getElem?_cons_succ, List.set_cons_zero, List.set_cons_succ, Option.map_some, Option.map_none, List.getD, Option.getD_some, if_true, true_and, and_true, Nat.reduceAdd, Nat.reduceSub, reduceIte, Bool.false_eq_true, Bool.not_true, Bool.not_false, natD_len]
            rw [ea, eb]
            exact ⟨by omega, hNX _ ⟨some _, rfl⟩⟩
          · rw [if_neg c3]
            have hp' : ¬ highP n k = true := by unfold highP; rw [decide_eq_false c3]; simp
            rw [if_neg hp'] at hk3
            rw [ea]
            exact hNX _ ⟨some _, by rw [hk3]; rfl⟩
        · rw [if_neg c2]
          have lp : ¬ lowP n k = true := by unfold lowP; rw [decide_eq_false c2]; simp
          have hp' : ¬ highP n k = true := by unfold highP; rw [Bool.and_eq_true]; exact fun z => lp z.1
          rw [if_neg lp] at hk2
          rw [if_neg hp'] at hk3
          exact hNX _ ⟨some _, by rw [hk2, hk3, List.append_nil]; rfl⟩
      · rw [if_neg c1]
        have lp : ¬ lowP n k = true := by unfold lowP; rw [decide_eq_false c1]; simp
        have hp' : ¬ highP n k = true := by unfold highP; rw [Bool.and_eq_true]; exact fun z => lp z.1
        rw [if_neg lp] at hk2
        rw [if_neg hp'] at hk3
        exact hNX _ ⟨some _, by rw [hk2, hk3, List.append_nil]; rfl⟩
    · obtain ⟨o2, rfl⟩ := hs
      show N9 _
      rw [hN9, rngD_len]
      have l1 := lowL_len n 1000
      have l2 := highL_len n 1000
      simp [vw_jk, at_0, at_1, at_2, at_3, at_4, ix_40, ix_41, ix_42, ix_43, boolsD_comp, intsD_comp, sh_int, sh_bool, sh_none, sh_str, ev_int, ev_bool, ev_str, ev_none, ev_ni, ev_in, uIfS, evT, ev, uRet, uRetO, uRetN, uDrop, uSet, uSetO, uMove, uFrz, uNext, uBreak, uCont, uApp, uIns, uPut, uPutA, uAug, uRaise, uVar, uC, uOp, uUn, uTru, uTst, uNot, uAnd, uOr, uAndV, uOrV, uNotV, uIf, uNil, uCons, argU, uTup, uLst, allD, onDs, onD, onT, onBool, oI, oIC, oAdd, oEq, oIsN, isN_none, isN_int, isN_bool, isN_str, isN_list, isN_tup, truD, oIx, uSl, uPart, uNoP, oSl, uCB, oLen, oList, oTuple, oInt, oAbs, oAll, oAny, oSum, onB, onI, uIs, uIs2, isT, uCall, uCallP, pick, vw, vw1, okU, okX, nolU, nol, nols, startU, kOf, kQ, kT, onL, uSeqI, uRng1, uRng2, rOk, uEnum, uRep, uTupRev, uYes, ugN, ugT2, wipeU, setU, uIfQ, uRetQ, uSetQ, uPutQ, ixC, uPar, uAsgT, uChain, uCall0, sizeLine_eq, oMax2, oSortI, oStrI, oIsB, szD, List.map_cons, List.map_nil, List.length_cons, List.length_nil, List.replicate, List.cons_append, List.nil_append, List.getElem?_cons_zero, List.getElem?_cons_succ, List.set_cons_zero, List.set_cons_succ, Option.map_some, Option.map_none, List.getD, Option.getD_some, if_true, true_and, and_true, Nat.reduceAdd, Nat.reduceSub, reduceIte, Bool.false_eq_true, Bool.not_true, Bool.not_false, natD_len]
      refine ⟨n, rfl, h0, h1, ?_⟩
      simp [vw_jk, at_0, at_1, at_2, at_3, at_4, ix_40, ix_41, ix_42, ix_43, boolsD_comp, intsD_comp, sh_int, sh_bool, sh_none, sh_str, ev_int, ev_bool, ev_str, ev_none, ev_ni, ev_in, uIfS, evT, ev, uRet, uRetO, uRetN, uDrop, uSet, uSetO, uMove, uFrz, uNext, uBreak, uCont, uApp, uIns, uPut, uPutA, uAug, uRaise, uVar, uC, uOp, uUn, uTru, uTst, uNot, uAnd, uOr, uAndV, uOrV, uNotV, uIf, uNil, uCons, argU, uTup, uLst, allD, onDs, onD, onT, onBool, oI, oIC, oAdd, oEq, oIsN, isN_none, isN_int, isN_bool, isN_str, isN_list, isN_tup, truD, oIx, uSl, uPart, uNoP, oSl, uCB, oLen, oList, oTuple, oInt, oAbs, oAll, oAny, oSum, onB, onI, uIs, uIs2, isT, uCall, uCallP, pick, vw, vw1, okU, okX, nolU, nol, nols, startU, kOf, kQ, kT, onL, uSeqI, uRng1, uRng2, rOk, uEnum, uRep, uTupRev, uYes, ugN, ugT2, wipeU, setU, uIfQ, uRetQ, uSetQ, uPutQ, ixC, uPar, uAsgT, uChain, uCall0, sizeLine_eq, oMax2, oSortI, oStrI, oIsB, szD, List.map_cons, List.map_nil, List.length_cons, List.length_nil, List.replicate, List.cons_append, List.nil_append, List.getElem?_cons_zero, List.getElem?_cons_succ, List.set_cons_zero, List.set_cons_succ, Option.map_some, Option.map_none, List.getD, Option.getD_some, if_true, true_and, and_true, Nat.reduceAdd, Nat.reduceSub, reduceIte, Bool.false_eq_true, Bool.not_true, Bool.not_false]
      refine ⟨by omega, row_call (by omega) ?_⟩
      simp [vw_jk, at_0, at_1, at_2, at_3, at_4, ix_40, ix_41, ix_42, ix_43, boolsD_comp, intsD_comp, sh_int, sh_bool, sh_none, sh_str, ev_int, ev_bool, ev_str, ev_none, ev_ni, ev_in, uIfS, evT, ev, uRet, uRetO, uRetN, uDrop, uSet, uSetO, uMove, uFrz, uNext, uBreak, uCont, uApp, uIns, uPut, uPutA, uAug, uRaise, uVar, uC, uOp, uUn, uTru, uTst, uNot, uAnd, uOr, uAndV, uOrV, uNotV, uIf, uNil, uCons, argU, uTup, uLst, allD, onDs, onD, onT, onBool, oI, oIC, oAdd, oEq, oIsN, isN_none, isN_int, isN_bool, isN_str, isN_list, isN_tup, truD, oIx, uSl, uPart, uNoP, oSl, uCB, oLen, oList, oTuple, oInt, oAbs, oAll, oAny, oSum, onB, onI, uIs, uIs2, isT, uCall, uCallP, pick, vw, vw1, okU, okX, nolU, nol, nols, startU, kOf, kQ, kT, onL, uSeqI, uRng1, uRng2, rOk, uEnum, uRep, uTupRev, uYes, ugN, ugT2, wipeU, setU, uIfQ, uRetQ, uSetQ, uPutQ, ixC, uPar, uAsgT, uChain, uCall0, sizeLine_eq, oMax2, oSortI, oStrI, oIsB, szD, List.map_cons, List.map_nil, List.length_cons, List.length_nil, List.replicate, List.cons_append, List.nil_append, List.getElem?_cons_zero, List.getElem?_cons_succ, List.set_cons_zero, List.set_cons_succ, Option.map_some, Option.map_none, List.getD, Option.getD_some, if_true, true_and, and_true, Nat.reduceAdd, Nat.reduceSub, reduceIte, Bool.false_eq_true, Bool.not_true, Bool.not_false, pick]
      refine ⟨n, rfl, h0, h1, ?_⟩
      simp [vw_jk, at_0, at_1, at_2, at_3, at_4, ix_40, ix_41, ix_42, ix_43, boolsD_comp, intsD_comp, sh_int, sh_bool, sh_none, sh_str, ev_int, ev_bool, ev_str, ev_none, ev_ni, ev_in, uIfS, evT, ev, uRet, uRetO, uRetN, uDrop, uSet, uSetO, uMove, uFrz, uNext, uBreak, uCont, uApp, uIns, uPut, uPutA, uAug, uRaise, uVar, uC, uOp, uUn, uTru, uTst, uNot, uAnd, uOr, uAndV, uOrV, uNotV, uIf, uNil, uCons, argU, uTup, uLst, allD, onDs, onD, onT, onBool, oI, oIC, oAdd, oEq, oIsN, isN_none, isN_int, isN_bool, isN_str, isN_list, isN_tup, truD, oIx, uSl, uPart, uNoP, oSl, uCB, oLen, oList, oTuple, oInt, oAbs, oAll, oAny, oSum, onB, onI, uIs, uIs2, isT, uCall, uCallP, pick, vw, vw1, okU, okX, nolU, nol, nols, startU, kOf, kQ, kT, onL, uSeqI, uRng1, uRng2, rOk, uEnum, uRep, uTupRev, uYes, ugN, ugT2, wipeU, setU, uIfQ, uRetQ, uSetQ, uPutQ, ixC, uPar, uAsgT, uChain, uCall0, sizeLine_eq, oMax2, oSortI, oStrI, oIsB, szD, List.map_cons, List.map_nil, List.length_cons, List.length_nil, List.replicate, List.cons_append, List.nil_append, List.getElem?_cons_zero, List.getElem?_cons_succ, List.set_cons_zero, List.set_cons_succ, Option.map_some, Option.map_none, List.getD, Option.getD_some, if_true, true_and, and_true, Nat.reduceAdd, Nat.reduceSub, reduceIte, Bool.false_eq_true, Bool.not_true, Bool.not_false]
      refine ⟨by omega, row_call (by omega) ⟨rfl, hp⟩⟩
theorem sc__law_units : FnScope ["_law_src", "_law_width", "_law_free", "_law_k", "_law_at_k", "_law_due", "_law_pick", "_law_known", "_law_dues"] ["_law_src"] (defScope s__law_units) := ⟨rfl, rfl, rfl, by decide +kernel, rfl, by decide +kernel, by decide +kernel⟩
def fn__law_units : Fn := fun as P _ => as = [.hold HVk] ∧ P (.d (.bool true))
theorem num_call {n : Nat} {P : U → Prop} {PX : Ex → Prop} (h0 : 0 < n) (h1 : n ≤ 1000000) (h : P (.d (.bool true))) : fn__law_of_number [.d (.int n)] P PX := ⟨n, rfl, h0, h1, h⟩
theorem units_call {n : Nat} {P : U → Prop} {PX : Ex → Prop} (h0 : 0 < n) (h1 : n ≤ 1000000) (h : P (.d (.int (unitsN n : Nat)))) : fn_how_many_units [.d (.int n)] P PX := ⟨n, rfl, h0, by omega, h⟩
/-- some number from 2 to m divides both -/
def badB (w m i : Nat) : Bool := (up 2 (m - 1)).any fun k => decide (w % k = 0) && decide (i % k = 0)
theorem badB_iff {w m i : Nat} : badB w m i = true ↔ ∃ k, 2 ≤ k ∧ k ≤ m ∧ w % k = 0 ∧ i % k = 0 := by
  unfold badB
  rw [List.any_eq_true]
  constructor
  · rintro ⟨k, hk, h⟩
    have := mem_up.mp hk
    simp at h
    exact ⟨k, by omega, by omega, h⟩
  · rintro ⟨k, h1, h2, h3, h4⟩
    exact ⟨k, mem_up.mpr (by omega), by simp [h3, h4]⟩
def tabI (w : Nat) (g : Nat → Int) : List D := (List.range w).map fun i => .int (g i)
theorem tabI_len (w : Nat) (g : Nat → Int) : (tabI w g).length = w := by simp [tabI]
theorem tabI_congr {w : Nat} {g h : Nat → Int} (e : ∀ i, i < w → g i = h i) : tabI w g = tabI w h := List.map_congr_left fun i hi => by rw [e i (List.mem_range.mp hi)]
theorem tabI_set {w i : Nat} {g : Nat → Int} {x : Int} : (tabI w g).set i (.int x) = tabI w fun j => if j = i then x else g j := by
  refine List.ext_getElem? fun j => ?_
  rw [List.getElem?_set, tabI_len]
  unfold tabI
  rw [List.getElem?_map, List.getElem?_map]
  by_cases hj : i = j
  · subst hj
    rw [if_pos rfl]
    by_cases hi : i < w
    · rw [if_pos hi, List.getElem?_range hi]
      simp
    · rw [if_neg hi, List.getElem?_eq_none (by simpa using hi)]
      rfl
  · rw [if_neg hj]
    by_cases hi : j < w
    · rw [List.getElem?_range hi]
      simp [show ¬ j = i from fun z => hj z.symm]
    · rw [List.getElem?_eq_none (by simpa using hi)]
      rfl
theorem tabI_ints (w : Nat) (g : Nat → Int) : intsD (tabI w g) = some ((List.range w).map g) := by
  have : tabI w g = ((List.range w).map g).map PyData.int := by unfold tabI; rw [List.map_map]; rfl
  rw [this, intsD_map]
def frI (b : Bool) : Int := if b = true then 0 else 1
theorem sum_frI (p : Nat → Bool) (l : List Nat) : (l.map fun i => frI (p i)).sum = ((l.countP fun i => !p i : Nat) : Int) := by
  induction l with
  | nil => rfl
  | cons a l ih =>
    rw [List.map_cons, List.sum_cons, ih, List.countP_cons]
    cases h : p a <;> simp [frI] <;> omega
theorem free_count {w : Nat} (h0 : 0 < w) : ((List.range w).countP fun i => !badB w w i) = freeN w := by
  unfold freeN
  refine List.countP_congr fun i _ => ?_
  have hg : 0 < Nat.gcd i w := Nat.gcd_pos_of_pos_right i h0
  have hl : Nat.gcd i w ≤ w := Nat.gcd_le_right i h0
  rw [Bool.not_eq_true', beq_iff_eq]
  constructor
  · intro h
    by_cases hz : Nat.gcd i w = 1
    · exact hz
    · have : badB w w i = true := badB_iff.mpr ⟨Nat.gcd i w, by omega, hl, Nat.mod_eq_zero_of_dvd (Nat.gcd_dvd_right i w), Nat.mod_eq_zero_of_dvd (Nat.gcd_dvd_left i w)⟩
      rw [this] at h; cases h
  · intro h
    cases hb : badB w w i with
    | false => rfl
    | true =>
      obtain ⟨k, h1, h2, h3, h4⟩ := badB_iff.mp hb
      have := Nat.le_of_dvd hg (Nat.dvd_gcd (Nat.dvd_of_mod_eq_zero h4) (Nat.dvd_of_mod_eq_zero h3))
      omega
theorem bad_next {w m i : Nat} (h1 : 1 ≤ m) : badB w (m + 1) i = (badB w m i || (decide (w % (m + 1) = 0) && decide (i % (m + 1) = 0))) := by
  unfold badB
  have : up 2 (m + 1 - 1) = up 2 (m - 1) ++ [m + 1] := by
    rw [show m + 1 - 1 = (m - 1) + 1 by omega, up_succ, show m - 1 + 2 = m + 1 by omega]
  rw [this, List.any_append]
  simp
def knL : List Nat := [1, 2, 4, 524288, 994009, 999983, 999999, 1000000, 510510, 531441, 720720, 823543]
def duL : List Nat := [1, 1, 2, 262144, 993012, 999982, 466560, 400000, 92160, 354294, 138240, 705894]
theorem known_at {i : Nat} (h : i < 12) : ∃ a : Nat, atI (natD knL) i = some (.int a) ∧ atI (natD duL) i = some (.int (unitsN a)) ∧ 0 < a ∧ a ≤ 1000000 := by
  have k : ∀ i, i < 12 → duL[i]?.getD 0 = unitsN (knL[i]?.getD 0) ∧ 0 < knL[i]?.getD 0 ∧ knL[i]?.getD 0 ≤ 1000000 := by decide +kernel
  obtain ⟨h1, h2, h3⟩ := k i h
  refine ⟨knL[i]?.getD 0, atI_nat rfl ?_, atI_nat rfl ?_, h2, h3⟩
  · unfold natD
    rw [List.getElem?_map, List.getElem?_eq_getElem (show i < knL.length from h)]
    rfl
  · rw [← h1]
    unfold natD
    rw [List.getElem?_map, List.getElem?_eq_getElem (show i < duL.length from h)]
    rfl
theorem has__law_units (T : Tk P K mg) {fd__law_draw : FuncData} (h__law_draw : Has P w K mg base 1 "_law_draw" s__law_draw ["_law_src", "_law_width"] fn__law_draw fd__law_draw) {fd__law_of_number : FuncData} (h__law_of_number : Has P w K mg base 4 "_law_of_number" s__law_of_number ["_law_width"] fn__law_of_number fd__law_of_number) {fd__law_is : FuncData} (h__law_is : Has P w K mg base 2 "_law_is" s__law_is ["_law_got", "_law_due"] fn__law_is fd__law_is) {fd_how_many_units : FuncData} (h_how_many_units : Has P w K mg base 2 "how_many_units" s_how_many_units ["many"] fn_how_many_units fd_how_many_units) : ∃ fd, Has P w K mg base 5 "_law_units" s__law_units ["_law_src"] fn__law_units fd := by
  obtain ⟨fd, F⟩ := T.f__law_units
  have hb := F.binds (ps := ["_law_src"]) fun _ _ _ _ _ _ us hl => match us, hl with | [_], _ => rfl
  refine ⟨fd, T.g__law_units, F.kp, F, hb, fnD F sc__law_units (by decide) fun cdv A outer s H E hr => ⟨_, _, (dss_cons (ds_set false 1 (de_op (do_addk (KK := K)) de_int (de_own h__law_draw ⟨rfl, rfl, rfl, rfl, rfl⟩ (hr.mono (by decide)) rfl airD (da_cons (dv 0) (da_cons de_int da_nil)))) sc__law_units.nd)
    (dss_cons (ds_setLcO (i := 2) false rfl sc__law_units.nd rfl rfl rfl (own := [("_law_k", 3)]) (di_rng1 (dv 1) rfl T.n_range) (blk_of (by kernel_rfl)) (fun _ _ _ _ _ => (dg_name 3 sc__law_units.nd)) (fun _ _ _ _ _ => dts_nil) (fun _ _ _ _ _ => de_int))
    (dss_cons (ds_for poD rfl (di_rng2 de_int (de_op (do_addk (KK := K)) (dv 1) de_int) rfl T.n_range) (dg_name 3 sc__law_units.nd) (dss_one (ds_if false (dt_cmp (do_eqk (KK := K) hr.units) (de_op do_mod (de_callTy dc_int (by rfl) T.n_int bt_int (da_cons (dv 1) da_nil)) (dv 3)) de_int) (dss_one (ds_for poD rfl (di_rng1 (de_op do_fdiv (dv 1) (dv 3)) rfl T.n_range) (dg_name 4 sc__law_units.nd) (dss_one (ds_put false 2 (de_op do_mul (dv 4) (dv 3)) de_int)))) dss_nil)))
    (dss_cons (ds_set true 5 (de_callB (dc_sumk (KK := K) rfl) (by rfl) T.n_sum bt_sum (da_cons (dv 2) da_nil)) sc__law_units.nd)
    (dss_cons (ds_if false (DW.dt (dw_or (dt_not (dt_truk (KK := K) (de_own h__law_is ⟨rfl, rfl, rfl, rfl, rfl⟩ (hr.mono (by decide)) rfl airD (da_cons (de_own h_how_many_units ⟨rfl, rfl, rfl, rfl, rfl⟩ (hr.mono (by decide)) rfl airD (da_cons (dv 1) da_nil)) (da_cons (dv 5) da_nil))))) (dw_or1 (dt_not (dt_truk (KK := K) (de_own h__law_is ⟨rfl, rfl, rfl, rfl, rfl⟩ (hr.mono (by decide)) rfl airD (da_cons (de_ownK0 h_how_many_units ⟨rfl, rfl, rfl, rfl, rfl⟩ (hr.mono (by decide)) rfl (kb_how_many_units_0 h_how_many_units.fu) airD (dk_cons (dv 1) dk_nil)) (da_cons (dv 5) da_nil)))))))) (dss_one (ds_ret false de_bl)) dss_nil)
    (dss_cons (ds_if false (dt_not (dt_truk (KK := K) (de_own h__law_of_number ⟨rfl, rfl, rfl, rfl, rfl⟩ (hr.mono (by decide)) rfl airD (da_cons (dv 1) da_nil)))) (dss_one (ds_ret false de_bl)) dss_nil)
    (dss_cons (ds_set false 6 (de_own h__law_draw ⟨rfl, rfl, rfl, rfl, rfl⟩ (hr.mono (by decide)) rfl airD (da_cons (dv 0) (da_cons de_int da_nil))) sc__law_units.nd)
    (dss_cons (ds_set false 7 (de_lst (da_cons de_int (da_cons de_int (da_cons de_int (da_cons de_int (da_cons de_int (da_cons de_int (da_cons de_int (da_cons de_int (da_cons de_int (da_cons de_int (da_cons de_int (da_cons de_int da_nil))))))))))))) sc__law_units.nd)
    (dss_cons (ds_set false 8 (de_lst (da_cons de_int (da_cons de_int (da_cons de_int (da_cons de_int (da_cons de_int (da_cons de_int (da_cons de_int (da_cons de_int (da_cons de_int (da_cons de_int (da_cons de_int (da_cons de_int da_nil))))))))))))) sc__law_units.nd)
    (dss_cons (ds_if false (dt_cmp do_lt (dv 6) de_int) (dss_one (ds_ret false (de_andk (KK := K) (de_own h__law_is ⟨rfl, rfl, rfl, rfl, rfl⟩ (hr.mono (by decide)) rfl airD (da_cons (de_own h_how_many_units ⟨rfl, rfl, rfl, rfl, rfl⟩ (hr.mono (by decide)) rfl airD (da_cons (de_ixk (KK := K) (dv 7) (dv 6)) da_nil)) (da_cons (de_ixk (KK := K) (dv 8) (dv 6)) da_nil))) (de_one (de_own h__law_of_number ⟨rfl, rfl, rfl, rfl, rfl⟩ (hr.mono (by decide)) rfl airD (da_cons (de_ixk (KK := K) (dv 7) (dv 6)) da_nil)))))) dss_nil)
    (dss_cons (ds_if false (dt_cmp do_lt (dv 6) de_int) (dss_one (ds_ret false (de_own h__law_of_number ⟨rfl, rfl, rfl, rfl, rfl⟩ (hr.mono (by decide)) rfl airD (da_cons (de_op (do_addk (KK := K)) de_int (de_own h__law_draw ⟨rfl, rfl, rfl, rfl, rfl⟩ (hr.mono (by decide)) rfl airD (da_cons (dv 0) (da_cons de_int da_nil)))) da_nil)))) dss_nil)
    (dss_one (ds_ret false (de_own h__law_of_number ⟨rfl, rfl, rfl, rfl, rfl⟩ (hr.mono (by decide)) rfl airD (da_cons (de_op (do_addk (KK := K)) de_int (de_own h__law_draw ⟨rfl, rfl, rfl, rfl, rfl⟩ (hr.mono (by decide)) rfl airD (da_cons (dv 0) (da_cons de_int da_nil)))) da_nil))))))))))))))), ?_⟩⟩
  rintro as Q PX hl ⟨rfl, hp⟩
  refine i_seq fun N hN => ?_
  simp [vw_jk, at_0, at_1, at_2, at_3, at_4, ix_40, ix_41, ix_42, ix_43, boolsD_comp, intsD_comp, sh_int, sh_bool, sh_none, sh_str, ev_int, ev_bool, ev_str, ev_none, ev_ni, ev_in, uIfS, evT, ev, uRet, uRetO, uRetN, uDrop, uSet, uSetO, uMove, uFrz, uNext, uBreak, uCont, uApp, uIns, uPut, uPutA, uAug, uRaise, uVar, uC, uOp, uUn, uTru, uTst, uNot, uAnd, uOr, uAndV, uOrV, uNotV, uIf, uNil, uCons, argU, uTup, uLst, allD, onDs, onD, onT, onBool, oI, oIC, oAdd, oEq, oIsN, isN_none, isN_int, isN_bool, isN_str, isN_list, isN_tup, truD, oIx, uSl, uPart, uNoP, oSl, uCB, oLen, oList, oTuple, oInt, oAbs, oAll, oAny, oSum, onB, onI, uIs, uIs2, isT, uCall, uCallP, pick, vw, vw1, okU, okX, nolU, nol, nols, startU, kOf, kQ, kT, onL, uSeqI, uRng1, uRng2, rOk, uEnum, uRep, uTupRev, uYes, ugN, ugT2, wipeU, setU, uIfQ, uRetQ, uSetQ, uPutQ, ixC, uPar, uAsgT, uChain, uCall0, sizeLine_eq, oMax2, oSortI, oStrI, oIsB, szD, List.map_cons, List.map_nil, List.length_cons, List.length_nil, List.replicate, List.cons_append, List.nil_append, List.getElem?_cons_zero, List.getElem?_cons_succ, List.set_cons_zero, List.set_cons_succ, Option.map_some, Option.map_none, List.getD, Option.getD_some, if_true, true_and, and_true, Nat.reduceAdd, Nat.reduceSub, reduceIte, Bool.false_eq_true, Bool.not_true, Bool.not_false]
  refine tkN 400 rfl (by decide) (by decide) fun r0 hr0 => ?_
  simp [vw_jk, at_0, at_1, at_2, at_3, at_4, ix_40, ix_41, ix_42, ix_43, boolsD_comp, intsD_comp, sh_int, sh_bool, sh_none, sh_str, ev_int, ev_bool, ev_str, ev_none, ev_ni, ev_in, uIfS, evT, ev, uRet, uRetO, uRetN, uDrop, uSet, uSetO, uMove, uFrz, uNext, uBreak, uCont, uApp, uIns, uPut, uPutA, uAug, uRaise, uVar, uC, uOp, uUn, uTru, uTst, uNot, uAnd, uOr, uAndV, uOrV, uNotV, uIf, uNil, uCons, argU, uTup, uLst, allD, onDs, onD, onT, onBool, oI, oIC, oAdd, oEq, oIsN, isN_none, isN_int, isN_bool, isN_str, isN_list, isN_tup, truD, oIx, uSl, uPart, uNoP, oSl, uCB, oLen, oList, oTuple, oInt, oAbs, oAll, oAny, oSum, onB, onI, uIs, uIs2, isT, uCall, uCallP, pick, vw, vw1, okU, okX, nolU, nol, nols, startU, kOf, kQ, kT, onL, uSeqI, uRng1, uRng2, rOk, uEnum, uRep, uTupRev, uYes, ugN, ugT2, wipeU, setU, uIfQ, uRetQ, uSetQ, uPutQ, ixC, uPar, uAsgT, uChain, uCall0, sizeLine_eq, oMax2, oSortI, oStrI, oIsB, szD, List.map_cons, List.map_nil, List.length_cons, List.length_nil, List.replicate, List.cons_append, List.nil_append, List.getElem?_cons_zero, List.getElem?_cons_succ, List.set_cons_zero, List.set_cons_succ, Option.map_some, Option.map_none, List.getD, Option.getD_some, if_true, true_and, and_true, Nat.reduceAdd, Nat.reduceSub, reduceIte, Bool.false_eq_true, Bool.not_true, Bool.not_false]
  obtain ⟨w, ew, w0, w1⟩ : ∃ w : Nat, (1 + (r0 : Int)) = w ∧ 1 ≤ w ∧ w ≤ 400 := ⟨1 + r0, by simp, by omega, by omega⟩
  rw [ew, hN]
  refine i_seq fun N2 hN2 => ?_
  simp [vw_jk, at_0, at_1, at_2, at_3, at_4, ix_40, ix_41, ix_42, ix_43, boolsD_comp, intsD_comp, sh_int, sh_bool, sh_none, sh_str, ev_int, ev_bool, ev_str, ev_none, ev_ni, ev_in, uIfS, evT, ev, uRet, uRetO, uRetN, uDrop, uSet, uSetO, uMove, uFrz, uNext, uBreak, uCont, uApp, uIns, uPut, uPutA, uAug, uRaise, uVar, uC, uOp, uUn, uTru, uTst, uNot, uAnd, uOr, uAndV, uOrV, uNotV, uIf, uNil, uCons, argU, uTup, uLst, allD, onDs, onD, onT, onBool, oI, oIC, oAdd, oEq, oIsN, isN_none, isN_int, isN_bool, isN_str, isN_list, isN_tup, truD, oIx, uSl, uPart, uNoP, oSl, uCB, oLen, oList, oTuple, oInt, oAbs, oAll, oAny, oSum, onB, onI, uIs, uIs2, isT, uCall, uCallP, pick, vw, vw1, okU, okX, nolU, nol, nols, startU, kOf, kQ, kT, onL, uSeqI, uRng1, uRng2, rOk, uEnum, uRep, uTupRev, uYes, ugN, ugT2, wipeU, setU, uIfQ, uRetQ, uSetQ, uPutQ, ixC, uPar, uAsgT, uChain, uCall0, sizeLine_eq, oMax2, oSortI, oStrI, oIsB, szD, List.map_cons, List.map_nil, List.length_cons, List.length_nil, List.replicate, List.cons_append, List.nil_append, List.getElem?_cons_zero, List.getElem?_cons_succ, List.set_cons_zero, List.set_cons_succ, Option.map_some, Option.map_none, List.getD, Option.getD_some, if_true, true_and, and_true, Nat.reduceAdd, Nat.reduceSub, reduceIte, Bool.false_eq_true, Bool.not_true, Bool.not_false]
  refine i_lc ?_
  simp [vw_jk, at_0, at_1, at_2, at_3, at_4, ix_40, ix_41, ix_42, ix_43, boolsD_comp, intsD_comp, sh_int, sh_bool, sh_none, sh_str, ev_int, ev_bool, ev_str, ev_none, ev_ni, ev_in, uIfS, evT, ev, uRet, uRetO, uRetN, uDrop, uSet, uSetO, uMove, uFrz, uNext, uBreak, uCont, uApp, uIns, uPut, uPutA, uAug, uRaise, uVar, uC, uOp, uUn, uTru, uTst, uNot, uAnd, uOr, uAndV, uOrV, uNotV, uIf, uNil, uCons, argU, uTup, uLst, allD, onDs, onD, onT, onBool, oI, oIC, oAdd, oEq, oIsN, isN_none, isN_int, isN_bool, isN_str, isN_list, isN_tup, truD, oIx, uSl, uPart, uNoP, oSl, uCB, oLen, oList, oTuple, oInt, oAbs, oAll, oAny, oSum, onB, onI, uIs, uIs2, isT, uCall, uCallP, pick, vw, vw1, okU, okX, nolU, nol, nols, startU, kOf, kQ, kT, onL, uSeqI, uRng1, uRng2, rOk, uEnum, uRep, uTupRev, uYes, ugN, ugT2, wipeU, setU, uIfQ, uRetQ, uSetQ, uPutQ, ixC, uPar, uAsgT, uChain, uCall0, sizeLine_eq, oMax2, oSortI, oStrI, oIsB, szD, List.map_cons, List.map_nil, List.length_cons, List.length_nil, List.replicate, List.cons_append, List.nil_append, List.getElem?_cons_zero, List.getElem?_cons_succ, List.set_cons_zero, List.set_cons_succ, Option.map_some, Option.map_none, List.getD, Option.getD_some, if_true, true_and, and_true, Nat.reduceAdd, Nat.reduceSub, reduceIte, Bool.false_eq_true, Bool.not_true, Bool.not_false]
  refine ⟨by omega, ?_⟩
  refine lc_fun (fun _ => [.int 1]) (by rw [rngD_len]; exact lt_line (by omega)) (fun i d e => ⟨_, rfl, by simp, fun acc J hJ => ?_⟩) ?_
  · simp [vw_jk, at_0, at_1, at_2, at_3, at_4, ix_40, ix_41, ix_42, ix_43, boolsD_comp, intsD_comp, sh_int, sh_bool, sh_none, sh_str, ev_int, ev_bool, ev_str, ev_none, ev_ni, ev_in, uIfS, evT, ev, uRet, uRetO, uRetN, uDrop, uSet, uSetO, uMove, uFrz, uNext, uBreak, uCont, uApp, uIns, uPut, uPutA, uAug, uRaise, uVar, uC, uOp, uUn, uTru, uTst, uNot, uAnd, uOr, uAndV, uOrV, uNotV, uIf, uNil, uCons, argU, uTup, uLst, allD, onDs, onD, onT, onBool, oI, oIC, oAdd, oEq, oIsN, isN_none, isN_int, isN_bool, isN_str, isN_list, isN_tup, truD, oIx, uSl, uPart, uNoP, oSl, uCB, oLen, oList, oTuple, oInt, oAbs, oAll, oAny, oSum, onB, onI, uIs, uIs2, isT, uCall, uCallP, pick, vw, vw1, okU, okX, nolU, nol, nols, startU, kOf, kQ, kT, onL, uSeqI, uRng1, uRng2, rOk, uEnum, uRep, uTupRev, uYes, ugN, ugT2, wipeU, setU, uIfQ, uRetQ, uSetQ, uPutQ, ixC, uPar, uAsgT, uChain, uCall0, sizeLine_eq, oMax2, oSortI, oStrI, oIsB, szD, List.map_cons, List.map_nil, List.length_cons, List.length_nil, List.replicate, List.cons_append, List.nil_append, List.getElem?_cons_zero, List.getElem?_cons_succ, List.set_cons_zero, List.set_cons_succ, Option.map_some, Option.map_none, List.getD, Option.getD_some, if_true, true_and, and_true, Nat.reduceAdd, Nat.reduceSub, reduceIte, Bool.false_eq_true, Bool.not_true, Bool.not_false]
    exact hJ
  have e1 : ((rngD 0 w).flatMap fun _ => [PyData.int 1]) = tabI w fun i => frI (badB w 1 i) := by
    rw [rngD_flat, flat_one]
    rfl
  rw [e1]
  simp only [vw_jk, at_0, at_1, at_2, at_3, at_4, ix_40, ix_41, ix_42, ix_43, boolsD_comp, intsD_comp, sh_int, sh_bool, sh_none, sh_str, ev_int, ev_bool, ev_str, ev_none, ev_ni, ev_in, uIfS, evT, ev, uRet, uRetO, uRetN, uDrop, uSet, uSetO, uMove, uFrz, uNext, uBreak, uCont, uApp, uIns, uPut, uPutA, uAug, uRaise, uVar, uC, uOp, uUn, uTru, uTst, uNot, uAnd, uOr, uAndV, uOrV, uNotV, uIf, uNil, uCons, argU, uTup, uLst, allD, onDs, onD, onT, onBool, oI, oIC, oAdd, oEq, oIsN, isN_none, isN_int, isN_bool, isN_str, isN_list, isN_tup, truD, oIx, uSl, uPart, uNoP, oSl, uCB, oLen, oList, oTuple, oInt, oAbs, oAll, oAny, oSum, onB, onI, uIs, uIs2, isT, uCall, uCallP, pick, vw, vw1, okU, okX, nolU, nol, nols, startU, kOf, kQ, kT, onL, uSeqI, uRng1, uRng2, rOk, uEnum, uRep, uTupRev, uYes, ugN, ugT2, wipeU, setU, uIfQ, uRetQ, uSetQ, uPutQ, ixC, uPar, uAsgT, uChain, uCall0, sizeLine_eq, oMax2, oSortI, oStrI, oIsB, szD, List.map_cons, List.map_nil, List.length_cons, List.length_nil, List.replicate, List.cons_append, List.nil_append, List.getElem?_cons_zero, List.getElem?_cons_succ, List.set_cons_zero, List.set_cons_succ, Option.map_some, Option.map_none, List.getD, Option.getD_some, if_true, true_and, and_true, Nat.reduceAdd, Nat.reduceSub, reduceIte, Bool.false_eq_true, Bool.not_true, Bool.not_false]
  rw [hN2]
  refine i_seq fun N3 hN3 => ?_
  refine i_for2 ?_
  simp [vw_jk, at_0, at_1, at_2, at_3, at_4, ix_40, ix_41, ix_42, ix_43, boolsD_comp, intsD_comp, sh_int, sh_bool, sh_none, sh_str, ev_int, ev_bool, ev_str, ev_none, ev_ni, ev_in, uIfS, evT, ev, uRet, uRetO, uRetN, uDrop, uSet, uSetO, uMove, uFrz, uNext, uBreak, uCont, uApp, uIns, uPut, uPutA, uAug, uRaise, uVar, uC, uOp, uUn, uTru, uTst, uNot, uAnd, uOr, uAndV, uOrV, uNotV, uIf, uNil, uCons, argU, uTup, uLst, allD, onDs, onD, onT, onBool, oI, oIC, oAdd, oEq, oIsN, isN_none, isN_int, isN_bool, isN_str, isN_list, isN_tup, truD, oIx, uSl, uPart, uNoP, oSl, uCB, oLen, oList, oTuple, oInt, oAbs, oAll, oAny, oSum, onB, onI, uIs, uIs2, isT, uCall, uCallP, pick, vw, vw1, okU, okX, nolU, nol, nols, startU, kOf, kQ, kT, onL, uSeqI, uRng1, uRng2, rOk, uEnum, uRep, uTupRev, uYes, ugN, ugT2, wipeU, setU, uIfQ, uRetQ, uSetQ, uPutQ, ixC, uPar, uAsgT, uChain, uCall0, sizeLine_eq, oMax2, oSortI, oStrI, oIsB, szD, List.map_cons, List.map_nil, List.length_cons, List.length_nil, List.replicate, List.cons_append, List.nil_append, List.getElem?_cons_zero, List.getElem?_cons_succ, List.set_cons_zero, List.set_cons_succ, Option.map_some, Option.map_none, List.getD, Option.getD_some, if_true, true_and, and_true, Nat.reduceAdd, Nat.reduceSub, reduceIte, Bool.false_eq_true, Bool.not_true, Bool.not_false]
  refine ⟨by omega, ?_⟩
  refine f_in (fun i s' => ∃ (o1 o2 : Option D), s' = [some (.hold HVk), some (.d (.int w)), some (.own (tabI w fun x => frI (badB w (i + 1) x))), jk o1, jk o2, none, none, none, none]) ⟨none, none, rfl⟩ (fun i d s' e hi hs NX hNX => ?_) (fun s' hs => ?_)
  · obtain ⟨o1, o2, rfl⟩ := hs
    obtain ⟨rfl, hi⟩ := get_rngD e
    refine ⟨_, rfl, ?_⟩
    have hi2 : i + 2 ≤ w := by omega
    have ek : ((2 : Int) + i) = ((i + 2 : Nat) : Int) := by omega
    rw [ek]
    have e2 : ((w : Int) % ((i + 2 : Nat) : Int) = 0) ↔ w % (i + 2) = 0 := by
      rw [← Int.natCast_emod]; omega
    have e4 : (w : Int) / ((i + 2 : Nat) : Int) = ((w / (i + 2) : Nat) : Int) := rfl
    have hbn : ∀ x, badB w (i + 2) x = (badB w (i + 1) x || (decide (w % (i + 2) = 0) && decide (x % (i + 2) = 0))) := fun x => bad_next (by omega)
    generalize hkk : i + 2 = k at *
    have hk2 : 2 ≤ k := by omega
    simp [vw_jk, at_0, at_1, at_2, at_3, at_4, ix_40, ix_41, ix_42, ix_43, boolsD_comp, intsD_comp, sh_int, sh_bool, sh_none, sh_str, ev_int, ev_bool, ev_str, ev_none, ev_ni, ev_in, uIfS, evT, ev, uRet, uRetO, uRetN, uDrop, uSet, uSetO, uMove, uFrz, uNext, uBreak, uCont, uApp, uIns, uPut, uPutA, uAug, uRaise, uVar, uC, uOp, uUn, uTru, uTst, uNot, uAnd, uOr, uAndV, uOrV, uNotV, uIf, uNil, uCons, argU, uTup, uLst, allD, onDs, onD, onT, onBool, oI, oIC, oAdd, oEq, oIsN, isN_none, isN_int, isN_bool, isN_str, isN_list, isN_tup, truD, oIx, uSl, uPart, uNoP, oSl, uCB, oLen, oList, oTuple, oInt, oAbs, oAll, oAny, oSum, onB, onI, uIs, uIs2, isT, uCall, uCallP, pick, vw, vw1, okU, okX, nolU, nol, nols, startU, kOf, kQ, kT, onL, uSeqI, uRng1, uRng2, rOk, uEnum, uRep, uTupRev, uYes, ugN, ugT2, wipeU, setU, uIfQ, uRetQ, uSetQ, uPutQ, ixC, uPar, uAsgT, uChain, uCall0, sizeLine_eq, oMax2, oSortI, oStrI, oIsB, szD, List.map_cons, List.map_nil, List.length_cons, List.length_nil, List.replicate, List.cons_append, List.nil_append, List.getElem?_cons_zero, List.getElem?_cons_succ, List.set_cons_zero, List.set_cons_succ, Option.map_some, Option.map_none, List.getD, Option.getD_some, if_true, true_and, and_true, Nat.reduceAdd, Nat.reduceSub, reduceIte, Bool.false_eq_true, Bool.not_true, Bool.not_false]
    refine ⟨by omega, ?_⟩
    simp only [e2]
    by_cases c : w % k = 0
    · rw [if_pos c]
      refine i_for2 ?_
      simp [vw_jk, at_0, at_1, at_2, at_3, at_4, ix_40, ix_41, ix_42, ix_43, boolsD_comp, intsD_comp, sh_int, sh_bool, sh_none, sh_str, ev_int, ev_bool, ev_str, ev_none, ev_ni, ev_in, uIfS, evT, ev, uRet, uRetO, uRetN, uDrop, uSet, uSetO, uMove, uFrz, uNext, uBreak, uCont, uApp, uIns, uPut, uPutA, uAug, uRaise, uVar, uC, uOp, uUn, uTru, uTst, uNot, uAnd, uOr, uAndV, uOrV, uNotV, uIf, uNil, uCons, argU, uTup, uLst, allD, onDs, onD, onT, onBool, oI, oIC, oAdd, oEq, oIsN, isN_none, isN_int, isN_bool, isN_str, isN_list, isN_tup, truD, oIx, uSl, uPart, uNoP, oSl, uCB, oLen, oList, oTuple, oInt, oAbs, oAll, oAny, oSum, onB, onI, uIs, uIs2, isT, uCall, uCallP, pick, vw, vw1, okU, okX, nolU, nol, nols, startU, kOf, kQ, kT, onL, uSeqI, uRng1, uRng2, rOk, uEnum, uRep, uTupRev, uYes, ugN, ugT2, wipeU, setU, uIfQ, uRetQ, uSetQ, uPutQ, ixC, uPar, uAsgT, uChain, uCall0, sizeLine_eq, oMax2, oSortI, oStrI, oIsB, szD, List.map_cons, List.map_nil, List.length_cons, List.length_nil, List.replicate, List.cons_append, List.nil_append, List.getElem?_cons_zero, List.getElem?_cons_succ, List.set_cons_zero, List.set_cons_succ, Option.map_some, Option.map_none, List.getD, Option.getD_some, if_true, true_and, and_true, Nat.reduceAdd, Nat.reduceSub, reduceIte, Bool.false_eq_true, Bool.not_true, Bool.not_false]
      have hq : w / k ≤ w := Nat.div_le_self _ _
      refine ⟨divS (by omega) (by omega), by rw [e4]; generalize w / k = q at *; omega, ?_⟩
      refine f_in (fun t s' => ∃ (o2 : Option D), s' = [some (.hold HVk), some (.d (.int w)), some (.own (tabI w fun x => if x % k = 0 ∧ x / k < t then 0 else frI (badB w (i + 1) x))), some (.d (.int k)), jk o2, none, none, none, none]) ⟨o2, by simp⟩ (fun t d s' e ht hs NX2 hNX2 => ?_) (fun s' hs => ?_)
      · obtain ⟨o2, rfl⟩ := hs
        obtain ⟨rfl, ht⟩ := get_rngD e
        rw [e4, Int.toNat_natCast] at ht
        refine ⟨_, rfl, ?_⟩
        have hlt : t * k < w := by
          have h1 : w = w / k * k := by have := Nat.div_add_mod w k; rw [c, Nat.add_zero, Nat.mul_comm] at this; exact this.symm
          have := Nat.mul_lt_mul_of_pos_right ht (show 0 < k by omega)
          omega
        have ei : ixN w ((t : Int) * k) = some (t * k) := ixN_nat (by simp) hlt
        simp [vw_jk, at_0, at_1, at_2, at_3, at_4, ix_40, ix_41, ix_42, ix_43, boolsD_comp, intsD_comp, sh_int, sh_bool, sh_none, sh_str, ev_int, ev_bool, ev_str, ev_none, ev_ni, ev_in, uIfS, evT, ev, uRet, uRetO, uRetN, uDrop, uSet, uSetO, uMove, uFrz, uNext, uBreak, uCont, uApp, uIns, uPut, uPutA, uAug, uRaise, uVar, uC, uOp, uUn, uTru, uTst, uNot, uAnd, uOr, uAndV, uOrV, uNotV, uIf, uNil, uCons, argU, uTup, uLst, allD, onDs, onD, onT, onBool, oI, oIC, oAdd, oEq, oIsN, isN_none, isN_int, isN_bool, isN_str, isN_list, isN_tup, truD, oIx, uSl, uPart, uNoP, oSl, uCB, oLen, oList, oTuple, oInt, oAbs, oAll, oAny, oSum, onB, onI, uIs, uIs2, isT, uCall, uCallP, pick, vw, vw1, okU, okX, nolU, nol, nols, startU, kOf, kQ, kT, onL, uSeqI, uRng1, uRng2, rOk, uEnum, uRep, uTupRev, uYes, ugN, ugT2, wipeU, setU, uIfQ, uRetQ, uSetQ, uPutQ, ixC, uPar, uAsgT, uChain, uCall0, sizeLine_eq, oMax2, oSortI, oStrI, oIsB, szD, List.map_cons, List.map_nil, List.length_cons, List.length_nil, List.replicate, List.cons_append, List.nil_append, List.getElem?_cons_zero, List.getElem?_cons_succ, List.set_cons_zero, List.set_cons_succ, Option.map_some, Option.map_none, List.getD, Option.getD_some, if_true, true_and, and_true, Nat.reduceAdd, Nat.reduceSub, reduceIte, Bool.false_eq_true, Bool.not_true, Bool.not_false, tabI_len, ei]
        refine ⟨mulR (by omega), hNX2 _ ⟨some (.int (0 + (t : Nat))), ?_⟩⟩
        rw [tabI_set]
        have : (fun j => if j = t * k then (0 : Int) else if j % k = 0 ∧ j / k < t then 0 else frI (badB w (i + 1) j)) = fun x => if x % k = 0 ∧ x / k < t + 1 then 0 else frI (badB w (i + 1) x) := by
          funext x
          by_cases h1 : x = t * k
          · rw [if_pos h1, if_pos ⟨by rw [h1]; exact Nat.mul_mod_left _ _, by rw [h1, Nat.mul_div_cancel _ (by omega)]; omega⟩]
          · rw [if_neg h1]
            by_cases h2 : x % k = 0
            · have h3 : x = x / k * k := by have := Nat.div_add_mod x k; rw [h2, Nat.add_zero, Nat.mul_comm] at this; exact this.symm
              have h4 : x / k ≠ t := fun z => h1 (by rw [← z]; exact h3)
              by_cases h5 : x / k < t
              · rw [if_pos ⟨h2, h5⟩, if_pos ⟨h2, by omega⟩]
              · rw [if_neg (fun z => h5 z.2), if_neg (fun z => by have := z.2; omega)]
            · rw [if_neg (fun z => h2 z.1), if_neg (fun z => h2 z.1)]
        rw [this]; simp [jk]
      · obtain ⟨o2, rfl⟩ := hs
        refine hNX _ ⟨some (.int k), o2, ?_⟩
        have : tabI w (fun x => if x % k = 0 ∧ x / k < (rngD 0 ((w : Int) / k).toNat).length then 0 else frI (badB w (i + 1) x)) = tabI w fun x => frI (badB w k x) := tabI_congr fun x hx => by
          rw [rngD_len, e4, Int.toNat_natCast, hbn x, c]
          by_cases h2 : x % k = 0
          · rw [if_pos ⟨h2, by
              have h1 : w = w / k * k := by have := Nat.div_add_mod w k; rw [c, Nat.add_zero, Nat.mul_comm] at this; exact this.symm
              exact (Nat.div_lt_iff_lt_mul (by omega)).mpr (by omega)⟩]
            simp [h2, frI]
          · rw [if_neg (fun z => h2 z.1)]
            simp [h2]
        rw [this]; rfl
    · rw [if_neg c]
      refine hNX _ ⟨some (.int k), o2, ?_⟩
      have : tabI w (fun x => frI (badB w (i + 1) x)) = tabI w fun x => frI (badB w k x) := tabI_congr fun x hx => by
        rw [hbn x]
        simp [c]
      rw [← this]; rfl
  · obtain ⟨o1, o2, rfl⟩ := hs
    show N3 _
    rw [hN3, rngD_len]
    have ew' : ((w : Int) + 1 - 2).toNat + 1 = w := by omega
    refine i_seq fun N4 hN4 => ?_
    rw [ew']
    simp [vw_jk, at_0, at_1, at_2, at_3, at_4, ix_40, ix_41, ix_42, ix_43, boolsD_comp, intsD_comp, sh_int, sh_bool, sh_none, sh_str, ev_int, ev_bool, ev_str, ev_none, ev_ni, ev_in, uIfS, evT, ev, uRet, uRetO, uRetN, uDrop, uSet, uSetO, uMove, uFrz, uNext, uBreak, uCont, uApp, uIns, uPut, uPutA, uAug, uRaise, uVar, uC, uOp, uUn, uTru, uTst, uNot, uAnd, uOr, uAndV, uOrV, uNotV, uIf, uNil, uCons, argU, uTup, uLst, allD, onDs, onD, onT, onBool, oI, oIC, oAdd, oEq, oIsN, isN_none, isN_int, isN_bool, isN_str, isN_list, isN_tup, truD, oIx, uSl, uPart, uNoP, oSl, uCB, oLen, oList, oTuple, oInt, oAbs, oAll, oAny, oSum, onB, onI, uIs, uIs2, isT, uCall, uCallP, pick, vw, vw1, okU, okX, nolU, nol, nols, startU, kOf, kQ, kT, onL, uSeqI, uRng1, uRng2, rOk, uEnum, uRep, uTupRev, uYes, ugN, ugT2, wipeU, setU, uIfQ, uRetQ, uSetQ, uPutQ, ixC, uPar, uAsgT, uChain, uCall0, sizeLine_eq, oMax2, oSortI, oStrI, oIsB, szD, List.map_cons, List.map_nil, List.length_cons, List.length_nil, List.replicate, List.cons_append, List.nil_append, List.getElem?_cons_zero, List.getElem?_cons_succ, List.set_cons_zero, List.set_cons_succ, Option.map_some, Option.map_none, List.getD, Option.getD_some, if_true, true_and, and_true, Nat.reduceAdd, Nat.reduceSub, reduceIte, Bool.false_eq_true, Bool.not_true, Bool.not_false, tabI_ints]
    have es : ((List.range w).map fun x => frI (badB w w x)).sum = ((freeN w : Nat) : Int) := by
      rw [sum_frI, free_count w0]
    rw [es, hN4, ← units_all w (by omega) w0]
    refine i_seq fun N5 hN5 => ?_
    simp [vw_jk, at_0, at_1, at_2, at_3, at_4, ix_40, ix_41, ix_42, ix_43, boolsD_comp, intsD_comp, sh_int, sh_bool, sh_none, sh_str, ev_int, ev_bool, ev_str, ev_none, ev_ni, ev_in, uIfS, evT, ev, uRet, uRetO, uRetN, uDrop, uSet, uSetO, uMove, uFrz, uNext, uBreak, uCont, uApp, uIns, uPut, uPutA, uAug, uRaise, uVar, uC, uOp, uUn, uTru, uTst, uNot, uAnd, uOr, uAndV, uOrV, uNotV, uIf, uNil, uCons, argU, uTup, uLst, allD, onDs, onD, onT, onBool, oI, oIC, oAdd, oEq, oIsN, isN_none, isN_int, isN_bool, isN_str, isN_list, isN_tup, truD, oIx, uSl, uPart, uNoP, oSl, uCB, oLen, oList, oTuple, oInt, oAbs, oAll, oAny, oSum, onB, onI, uIs, uIs2, isT, uCall, uCallP, pick, vw, vw1, okU, okX, nolU, nol, nols, startU, kOf, kQ, kT, onL, uSeqI, uRng1, uRng2, rOk, uEnum, uRep, uTupRev, uYes, ugN, ugT2, wipeU, setU, uIfQ, uRetQ, uSetQ, uPutQ, ixC, uPar, uAsgT, uChain, uCall0, sizeLine_eq, oMax2, oSortI, oStrI, oIsB, szD, List.map_cons, List.map_nil, List.length_cons, List.length_nil, List.replicate, List.cons_append, List.nil_append, List.getElem?_cons_zero, List.getElem?_cons_succ, List.set_cons_zero, List.set_cons_succ, Option.map_some, Option.map_none, List.getD, Option.getD_some, if_true, true_and, and_true, Nat.reduceAdd, Nat.reduceSub, reduceIte, Bool.false_eq_true, Bool.not_true, Bool.not_false]
    refine units_call w0 (by omega) ?_
    simp [vw_jk, at_0, at_1, at_2, at_3, at_4, ix_40, ix_41, ix_42, ix_43, boolsD_comp, intsD_comp, sh_int, sh_bool, sh_none, sh_str, ev_int, ev_bool, ev_str, ev_none, ev_ni, ev_in, uIfS, evT, ev, uRet, uRetO, uRetN, uDrop, uSet, uSetO, uMove, uFrz, uNext, uBreak, uCont, uApp, uIns, uPut, uPutA, uAug, uRaise, uVar, uC, uOp, uUn, uTru, uTst, uNot, uAnd, uOr, uAndV, uOrV, uNotV, uIf, uNil, uCons, argU, uTup, uLst, allD, onDs, onD, onT, onBool, oI, oIC, oAdd, oEq, oIsN, isN_none, isN_int, isN_bool, isN_str, isN_list, isN_tup, truD, oIx, uSl, uPart, uNoP, oSl, uCB, oLen, oList, oTuple, oInt, oAbs, oAll, oAny, oSum, onB, onI, uIs, uIs2, isT, uCall, uCallP, pick, vw, vw1, okU, okX, nolU, nol, nols, startU, kOf, kQ, kT, onL, uSeqI, uRng1, uRng2, rOk, uEnum, uRep, uTupRev, uYes, ugN, ugT2, wipeU, setU, uIfQ, uRetQ, uSetQ, uPutQ, ixC, uPar, uAsgT, uChain, uCall0, sizeLine_eq, oMax2, oSortI, oStrI, oIsB, szD, List.map_cons, List.map_nil, List.length_cons, List.length_nil, List.replicate, List.cons_append, List.nil_append, List.getElem?_cons_zero, List.getElem?_cons_succ, List.set_cons_zero, List.set_cons_succ, Option.map_some, Option.map_none, List.getD, Option.getD_some, if_true, true_and, and_true, Nat.reduceAdd, Nat.reduceSub, reduceIte, Bool.false_eq_true, Bool.not_true, Bool.not_false, is_iff, eqI_self]
    refine ⟨w, rfl, w0, by omega, ?_⟩
    simp [vw_jk, at_0, at_1, at_2, at_3, at_4, ix_40, ix_41, ix_42, ix_43, boolsD_comp, intsD_comp, sh_int, sh_bool, sh_none, sh_str, ev_int, ev_bool, ev_str, ev_none, ev_ni, ev_in, uIfS, evT, ev, uRet, uRetO, uRetN, uDrop, uSet, uSetO, uMove, uFrz, uNext, uBreak, uCont, uApp, uIns, uPut, uPutA, uAug, uRaise, uVar, uC, uOp, uUn, uTru, uTst, uNot, uAnd, uOr, uAndV, uOrV, uNotV, uIf, uNil, uCons, argU, uTup, uLst, allD, onDs, onD, onT, onBool, oI, oIC, oAdd, oEq, oIsN, isN_none, isN_int, isN_bool, isN_str, isN_list, isN_tup, truD, oIx, uSl, uPart, uNoP, oSl, uCB, oLen, oList, oTuple, oInt, oAbs, oAll, oAny, oSum, onB, onI, uIs, uIs2, isT, uCall, uCallP, pick, vw, vw1, okU, okX, nolU, nol, nols, startU, kOf, kQ, kT, onL, uSeqI, uRng1, uRng2, rOk, uEnum, uRep, uTupRev, uYes, ugN, ugT2, wipeU, setU, uIfQ, uRetQ, uSetQ, uPutQ, ixC, uPar, uAsgT, uChain, uCall0, sizeLine_eq, oMax2, oSortI, oStrI, oIsB, szD, List.map_cons, List.map_nil, List.length_cons, List.length_nil, List.replicate, List.cons_append, List.nil_append, List.getElem?_cons_zero, List.getElem?_cons_succ, List.set_cons_zero, List.set_cons_succ, Option.map_some, Option.map_none, List.getD, Option.getD_some, if_true, true_and, and_true, Nat.reduceAdd, Nat.reduceSub, reduceIte, Bool.false_eq_true, Bool.not_true, Bool.not_false, is_iff, eqI_self]
    rw [hN5]
    refine i_seq fun N6 hN6 => ?_
    simp [vw_jk, at_0, at_1, at_2, at_3, at_4, ix_40, ix_41, ix_42, ix_43, boolsD_comp, intsD_comp, sh_int, sh_bool, sh_none, sh_str, ev_int, ev_bool, ev_str, ev_none, ev_ni, ev_in, uIfS, evT, ev, uRet, uRetO, uRetN, uDrop, uSet, uSetO, uMove, uFrz, uNext, uBreak, uCont, uApp, uIns, uPut, uPutA, uAug, uRaise, uVar, uC, uOp, uUn, uTru, uTst, uNot, uAnd, uOr, uAndV, uOrV, uNotV, uIf, uNil, uCons, argU, uTup, uLst, allD, onDs, onD, onT, onBool, oI, oIC, oAdd, oEq, oIsN, isN_none, isN_int, isN_bool, isN_str, isN_list, isN_tup, truD, oIx, uSl, uPart, uNoP, oSl, uCB, oLen, oList, oTuple, oInt, oAbs, oAll, oAny, oSum, onB, onI, uIs, uIs2, isT, uCall, uCallP, pick, vw, vw1, okU, okX, nolU, nol, nols, startU, kOf, kQ, kT, onL, uSeqI, uRng1, uRng2, rOk, uEnum, uRep, uTupRev, uYes, ugN, ugT2, wipeU, setU, uIfQ, uRetQ, uSetQ, uPutQ, ixC, uPar, uAsgT, uChain, uCall0, sizeLine_eq, oMax2, oSortI, oStrI, oIsB, szD, List.map_cons, List.map_nil, List.length_cons, List.length_nil, List.replicate, List.cons_append, List.nil_append, List.getElem?_cons_zero, List.getElem?_cons_succ, List.set_cons_zero, List.set_cons_succ, Option.map_some, Option.map_none, List.getD, Option.getD_some, if_true, true_and, and_true, Nat.reduceAdd, Nat.reduceSub, reduceIte, Bool.false_eq_true, Bool.not_true, Bool.not_false]
    refine num_call w0 (by omega) ?_
    simp [vw_jk, at_0, at_1, at_2, at_3, at_4, ix_40, ix_41, ix_42, ix_43, boolsD_comp, intsD_comp, sh_int, sh_bool, sh_none, sh_str, ev_int, ev_bool, ev_str, ev_none, ev_ni, ev_in, uIfS, evT, ev, uRet, uRetO, uRetN, uDrop, uSet, uSetO, uMove, uFrz, uNext, uBreak, uCont, uApp, uIns, uPut, uPutA, uAug, uRaise, uVar, uC, uOp, uUn, uTru, uTst, uNot, uAnd, uOr, uAndV, uOrV, uNotV, uIf, uNil, uCons, argU, uTup, uLst, allD, onDs, onD, onT, onBool, oI, oIC, oAdd, oEq, oIsN, isN_none, isN_int, isN_bool, isN_str, isN_list, isN_tup, truD, oIx, uSl, uPart, uNoP, oSl, uCB, oLen, oList, oTuple, oInt, oAbs, oAll, oAny, oSum, onB, onI, uIs, uIs2, isT, uCall, uCallP, pick, vw, vw1, okU, okX, nolU, nol, nols, startU, kOf, kQ, kT, onL, uSeqI, uRng1, uRng2, rOk, uEnum, uRep, uTupRev, uYes, ugN, ugT2, wipeU, setU, uIfQ, uRetQ, uSetQ, uPutQ, ixC, uPar, uAsgT, uChain, uCall0, sizeLine_eq, oMax2, oSortI, oStrI, oIsB, szD, List.map_cons, List.map_nil, List.length_cons, List.length_nil, List.replicate, List.cons_append, List.nil_append, List.getElem?_cons_zero, List.getElem?_cons_succ, List.set_cons_zero, List.set_cons_succ, Option.map_some, Option.map_none, List.getD, Option.getD_some, if_true, true_and, and_true, Nat.reduceAdd, Nat.reduceSub, reduceIte, Bool.false_eq_true, Bool.not_true, Bool.not_false]
    rw [hN6]
    refine i_seq fun N7 hN7 => ?_
    simp [vw_jk, at_0, at_1, at_2, at_3, at_4, ix_40, ix_41, ix_42, ix_43, boolsD_comp, intsD_comp, sh_int, sh_bool, sh_none, sh_str, ev_int, ev_bool, ev_str, ev_none, ev_ni, ev_in, uIfS, evT, ev, uRet, uRetO, uRetN, uDrop, uSet, uSetO, uMove, uFrz, uNext, uBreak, uCont, uApp, uIns, uPut, uPutA, uAug, uRaise, uVar, uC, uOp, uUn, uTru, uTst, uNot, uAnd, uOr, uAndV, uOrV, uNotV, uIf, uNil, uCons, argU, uTup, uLst, allD, onDs, onD, onT, onBool, oI, oIC, oAdd, oEq, oIsN, isN_none, isN_int, isN_bool, isN_str, isN_list, isN_tup, truD, oIx, uSl, uPart, uNoP, oSl, uCB, oLen, oList, oTuple, oInt, oAbs, oAll, oAny, oSum, onB, onI, uIs, uIs2, isT, uCall, uCallP, pick, vw, vw1, okU, okX, nolU, nol, nols, startU, kOf, kQ, kT, onL, uSeqI, uRng1, uRng2, rOk, uEnum, uRep, uTupRev, uYes, ugN, ugT2, wipeU, setU, uIfQ, uRetQ, uSetQ, uPutQ, ixC, uPar, uAsgT, uChain, uCall0, sizeLine_eq, oMax2, oSortI, oStrI, oIsB, szD, List.map_cons, List.map_nil, List.length_cons, List.length_nil, List.replicate, List.cons_append, List.nil_append, List.getElem?_cons_zero, List.getElem?_cons_succ, List.set_cons_zero, List.set_cons_succ, Option.map_some, Option.map_none, List.getD, Option.getD_some, if_true, true_and, and_true, Nat.reduceAdd, Nat.reduceSub, reduceIte, Bool.false_eq_true, Bool.not_true, Bool.not_false]
    refine tkN 96 rfl (by decide) (by decide) fun pk hpk => ?_
    simp [vw_jk, at_0, at_1, at_2, at_3, at_4, ix_40, ix_41, ix_42, ix_43, boolsD_comp, intsD_comp, sh_int, sh_bool, sh_none, sh_str, ev_int, ev_bool, ev_str, ev_none, ev_ni, ev_in, uIfS, evT, ev, uRet, uRetO, uRetN, uDrop, uSet, uSetO, uMove, uFrz, uNext, uBreak, uCont, uApp, uIns, uPut, uPutA, uAug, uRaise, uVar, uC, uOp, uUn, uTru, uTst, uNot, uAnd, uOr, uAndV, uOrV, uNotV, uIf, uNil, uCons, argU, uTup, uLst, allD, onDs, onD, onT, onBool, oI, oIC, oAdd, oEq, oIsN, isN_none, isN_int, isN_bool, isN_str, isN_list, isN_tup, truD, oIx, uSl, uPart, uNoP, oSl, uCB, oLen, oList, oTuple, oInt, oAbs, oAll, oAny, oSum, onB, onI, uIs, uIs2, isT, uCall, uCallP, pick, vw, vw1, okU, okX, nolU, nol, nols, startU, kOf, kQ, kT, onL, uSeqI, uRng1, uRng2, rOk, uEnum, uRep, uTupRev, uYes, ugN, ugT2, wipeU, setU, uIfQ, uRetQ, uSetQ, uPutQ, ixC, uPar, uAsgT, uChain, uCall0, sizeLine_eq, oMax2, oSortI, oStrI, oIsB, szD, List.map_cons, List.map_nil, List.length_cons, List.length_nil, List.replicate, List.cons_append, List.nil_append, List.getElem?_cons_zero, List.getElem?_cons_succ, List.set_cons_zero, List.set_cons_succ, Option.map_some, Option.map_none, List.getD, Option.getD_some, if_true, true_and, and_true, Nat.reduceAdd, Nat.reduceSub, reduceIte, Bool.false_eq_true, Bool.not_true, Bool.not_false]
    rw [hN7]
    refine i_seq fun N8 hN8 => ?_
    simp [vw_jk, at_0, at_1, at_2, at_3, at_4, ix_40, ix_41, ix_42, ix_43, boolsD_comp, intsD_comp, sh_int, sh_bool, sh_none, sh_str, ev_int, ev_bool, ev_str, ev_none, ev_ni, ev_in, uIfS, evT, ev, uRet, uRetO, uRetN, uDrop, uSet, uSetO, uMove, uFrz, uNext, uBreak, uCont, uApp, uIns, uPut, uPutA, uAug, uRaise, uVar, uC, uOp, uUn, uTru, uTst, uNot, uAnd, uOr, uAndV, uOrV, uNotV, uIf, uNil, uCons, argU, uTup, uLst, allD, onDs, onD, onT, onBool, oI, oIC, oAdd, oEq, oIsN, isN_none, isN_int, isN_bool, isN_str, isN_list, isN_tup, truD, oIx, uSl, uPart, uNoP, oSl, uCB, oLen, oList, oTuple, oInt, oAbs, oAll, oAny, oSum, onB, onI, uIs, uIs2, isT, uCall, uCallP, pick, vw, vw1, okU, okX, nolU, nol, nols, startU, kOf, kQ, kT, onL, uSeqI, uRng1, uRng2, rOk, uEnum, uRep, uTupRev, uYes, ugN, ugT2, wipeU, setU, uIfQ, uRetQ, uSetQ, uPutQ, ixC, uPar, uAsgT, uChain, uCall0, sizeLine_eq, oMax2, oSortI, oStrI, oIsB, szD, List.map_cons, List.map_nil, List.length_cons, List.length_nil, List.replicate, List.cons_append, List.nil_append, List.getElem?_cons_zero, List.getElem?_cons_succ, List.set_cons_zero, List.set_cons_succ, Option.map_some, Option.map_none, List.getD, Option.getD_some, if_true, true_and, and_true, Nat.reduceAdd, Nat.reduceSub, reduceIte, Bool.false_eq_true, Bool.not_true, Bool.not_false]
    rw [hN8]
    refine i_seq fun N9 hN9 => ?_
    simp [vw_jk, at_0, at_1, at_2, at_3, at_4, ix_40, ix_41, ix_42, ix_43, boolsD_comp, intsD_comp, sh_int, sh_bool, sh_none, sh_str, ev_int, ev_bool, ev_str, ev_none, ev_ni, ev_in, uIfS, evT, ev, uRet, uRetO, uRetN, uDrop, uSet, uSetO, uMove, uFrz, uNext, uBreak, uCont, uApp, uIns, uPut, uPutA, uAug, uRaise, uVar, uC, uOp, uUn, uTru, uTst, uNot, uAnd, uOr, uAndV, uOrV, uNotV, uIf, uNil, uCons, argU, uTup, uLst, allD, onDs, onD, onT, onBool, oI, oIC, oAdd, oEq, oIsN, isN_none, isN_int, isN_bool, isN_str, isN_list, isN_tup, truD, oIx, uSl, uPart, uNoP, oSl, uCB, oLen, oList, oTuple, oInt, oAbs, oAll, oAny, oSum, onB, onI, uIs, uIs2, isT, uCall, uCallP, pick, vw, vw1, okU, okX, nolU, nol, nols, startU, kOf, kQ, kT, onL, uSeqI, uRng1, uRng2, rOk, uEnum, uRep, uTupRev, uYes, ugN, ugT2, wipeU, setU, uIfQ, uRetQ, uSetQ, uPutQ, ixC, uPar, uAsgT, uChain, uCall0, sizeLine_eq, oMax2, oSortI, oStrI, oIsB, szD, List.map_cons, List.map_nil, List.length_cons, List.length_nil, List.replicate, List.cons_append, List.nil_append, List.getElem?_cons_zero, List.getElem?_cons_succ, List.set_cons_zero, List.set_cons_succ, Option.map_some, Option.map_none, List.getD, Option.getD_some, if_true, true_and, and_true, Nat.reduceAdd, Nat.reduceSub, reduceIte, Bool.false_eq_true, Bool.not_true, Bool.not_false]
    rw [hN9]
    have k1 : [PyData.int 1, PyData.int 2, PyData.int 4, PyData.int 524288, PyData.int 994009, PyData.int 999983, PyData.int 999999, PyData.int 1000000, PyData.int 510510, PyData.int 531441, PyData.int 720720, PyData.int 823543] = natD knL := rfl
    have k2 : [PyData.int 1, PyData.int 1, PyData.int 2, PyData.int 262144, PyData.int 993012, PyData.int 999982, PyData.int 466560, PyData.int 400000, PyData.int 92160, PyData.int 354294, PyData.int 138240, PyData.int 705894] = natD duL := rfl
    rw [k1, k2]
    refine i_seq fun N10 hN10 => ?_
    simp [vw_jk, at_0, at_1, at_2, at_3, at_4, ix_40, ix_41, ix_42, ix_43, boolsD_comp, intsD_comp, sh_int, sh_bool, sh_none, sh_str, ev_int, ev_bool, ev_str, ev_none, ev_ni, ev_in, uIfS, evT, ev, uRet, uRetO, uRetN, uDrop, uSet, uSetO, uMove, uFrz, uNext, uBreak, uCont, uApp, uIns, uPut, uPutA, uAug, uRaise, uVar, uC, uOp, uUn, uTru, uTst, uNot, uAnd, uOr, uAndV, uOrV, uNotV, uIf, uNil, uCons, argU, uTup, uLst, allD, onDs, onD, onT, onBool, oI, oIC, oAdd, oEq, oIsN, isN_none, isN_int, isN_bool, isN_str, isN_list, isN_tup, truD, oIx, uSl, uPart, uNoP, oSl, uCB, oLen, oList, oTuple, oInt, oAbs, oAll, oAny, oSum, onB, onI, uIs, uIs2, isT, uCall, uCallP, pick, vw, vw1, okU, okX, nolU, nol, nols, startU, kOf, kQ, kT, onL, uSeqI, uRng1, uRng2, rOk, uEnum, uRep, uTupRev, uYes, ugN, ugT2, wipeU, setU, uIfQ, uRetQ, uSetQ, uPutQ, ixC, uPar, uAsgT, uChain, uCall0, sizeLine_eq, oMax2, oSortI, oStrI, oIsB, szD, List.map_cons, List.map_nil, List.length_cons, List.length_nil, List.replicate, List.cons_append, List.nil_append, List.getElem?_cons_zero, List.getElem?_cons_succ, List.set_cons_zero, List.set_cons_succ, Option.map_some, Option.map_none, List.getD, Option.getD_some, if_true, true_and, and_true, Nat.reduceAdd, Nat.reduceSub, reduceIte, Bool.false_eq_true, Bool.not_true, Bool.not_false]
    split
    · next hlt =>
      obtain ⟨a, a1, a2, a3, a4⟩ := known_at (i := pk) (by omega)
      simp only [a1]
      refine units_call a3 a4 ?_
      simp [vw_jk, at_0, at_1, at_2, at_3, at_4, ix_40, ix_41, ix_42, ix_43, boolsD_comp, intsD_comp, sh_int, sh_bool, sh_none, sh_str, ev_int, ev_bool, ev_str, ev_none, ev_ni, ev_in, uIfS, evT, ev, uRet, uRetO, uRetN, uDrop, uSet, uSetO, uMove, uFrz, uNext, uBreak, uCont, uApp, uIns, uPut, uPutA, uAug, uRaise, uVar, uC, uOp, uUn, uTru, uTst, uNot, uAnd, uOr, uAndV, uOrV, uNotV, uIf, uNil, uCons, argU, uTup, uLst, allD, onDs, onD, onT, onBool, oI, oIC, oAdd, oEq, oIsN, isN_none, isN_int, isN_bool, isN_str, isN_list, isN_tup, truD, oIx, uSl, uPart, uNoP, oSl, uCB, oLen, oList, oTuple, oInt, oAbs, oAll, oAny, oSum, onB, onI, uIs, uIs2, isT, uCall, uCallP, pick, vw, vw1, okU, okX, nolU, nol, nols, startU, kOf, kQ, kT, onL, uSeqI, uRng1, uRng2, rOk, uEnum, uRep, uTupRev, uYes, ugN, ugT2, wipeU, setU, uIfQ, uRetQ, uSetQ, uPutQ, ixC, uPar, uAsgT, uChain, uCall0, sizeLine_eq, oMax2, oSortI, oStrI, oIsB, szD, List.map_cons, List.map_nil, List.length_cons, List.length_nil, List.replicate, List.cons_append, List.nil_append, List.getElem?_cons_zero, List.getElem?_cons_succ, List.set_cons_zero, List.set_cons_succ, Option.map_some, Option.map_none, List.getD, Option.getD_some, if_true, true_and, and_true, Nat.reduceAdd, Nat.reduceSub, reduceIte, Bool.false_eq_true, Bool.not_true, Bool.not_false, a2, a1, is_iff, eqI]
      refine num_call a3 a4 ?_
      exact hp
    · rw [hN10]
      refine i_seq fun N11 hN11 => ?_
      simp [vw_jk, at_0, at_1, at_2, at_3, at_4, ix_40, ix_41, ix_42, ix_43, boolsD_comp, intsD_comp, sh_int, sh_bool, sh_none, sh_str, ev_int, ev_bool, ev_str, ev_none, ev_ni, ev_in, uIfS, evT, ev, uRet, uRetO, uRetN, uDrop, uSet, uSetO, uMove, uFrz, uNext, uBreak, uCont, uApp, uIns, uPut, uPutA, uAug, uRaise, uVar, uC, uOp, uUn, uTru, uTst, uNot, uAnd, uOr, uAndV, uOrV, uNotV, uIf, uNil, uCons, argU, uTup, uLst, allD, onDs, onD, onT, onBool, oI, oIC, oAdd, oEq, oIsN, isN_none, isN_int, isN_bool, isN_str, isN_list, isN_tup, truD, oIx, uSl, uPart, uNoP, oSl, uCB, oLen, oList, oTuple, oInt, oAbs, oAll, oAny, oSum, onB, onI, uIs, uIs2, isT, uCall, uCallP, pick, vw, vw1, okU, okX, nolU, nol, nols, startU, kOf, kQ, kT, onL, uSeqI, uRng1, uRng2, rOk, uEnum, uRep, uTupRev, uYes, ugN, ugT2, wipeU, setU, uIfQ, uRetQ, uSetQ, uPutQ, ixC, uPar, uAsgT, uChain, uCall0, sizeLine_eq, oMax2, oSortI, oStrI, oIsB, szD, List.map_cons, List.map_nil, List.length_cons, List.length_nil, List.replicate, List.cons_append, List.nil_append, List.getElem?_cons_zero, List.getElem?_cons_succ, List.set_cons_zero, List.set_cons_succ, Option.map_some, Option.map_none, List.getD, Option.getD_some, if_true, true_and, and_true, Nat.reduceAdd, Nat.reduceSub, reduceIte, Bool.false_eq_true, Bool.not_true, Bool.not_false]
      split
      · refine tkN 1000000 rfl (by decide) (by decide) fun z hz => ?_
        simp [vw_jk, at_0, at_1, at_2, at_3, at_4, ix_40, ix_41, ix_42, ix_43, boolsD_comp, intsD_comp, sh_int, sh_bool, sh_none, sh_str, ev_int, ev_bool, ev_str, ev_none, ev_ni, ev_in, uIfS, evT, ev, uRet, uRetO, uRetN, uDrop, uSet, uSetO, uMove, uFrz, uNext, uBreak, uCont, uApp, uIns, uPut, uPutA, uAug, uRaise, uVar, uC, uOp, uUn, uTru, uTst, uNot, uAnd, uOr, uAndV, uOrV, uNotV, uIf, uNil, uCons, argU, uTup, uLst, allD, onDs, onD, onT, onBool, oI, oIC, oAdd, oEq, oIsN, isN_none, isN_int, isN_bool, isN_str, isN_list, isN_tup, truD, oIx, uSl, uPart, uNoP, oSl, uCB, oLen, oList, oTuple, oInt, oAbs, oAll, oAny, oSum, onB, onI, uIs, uIs2, isT, uCall, uCallP, pick, vw, vw1, okU, okX, nolU, nol, nols, startU, kOf, kQ, kT, onL, uSeqI, uRng1, uRng2, rOk, uEnum, uRep, uTupRev, uYes, ugN, ugT2, wipeU, setU, uIfQ, uRetQ, uSetQ, uPutQ, ixC, uPar, uAsgT, uChain, uCall0, sizeLine_eq, oMax2, oSortI, oStrI, oIsB, szD, List.map_cons, List.map_nil, List.length_cons, List.length_nil, List.replicate, List.cons_append, List.nil_append, List.getElem?_cons_zero, List.getElem?_cons_succ, List.set_cons_zero, List.set_cons_succ, Option.map_some, Option.map_none, List.getD, Option.getD_some, if_true, true_and, and_true, Nat.reduceAdd, Nat.reduceSub, reduceIte, Bool.false_eq_true, Bool.not_true, Bool.not_false]
        refine num_call (n := 1 + z) (by omega) (by omega) ?_
        exact hp
      · rw [hN11]
        simp [vw_jk, at_0, at_1, at_2, at_3, at_4, ix_40, ix_41, ix_42, ix_43, boolsD_comp, intsD_comp, sh_int, sh_bool, sh_none, sh_str, ev_int, ev_bool, ev_str, ev_none, ev_ni, ev_in, uIfS, evT, ev, uRet, uRetO, uRetN, uDrop, uSet, uSetO, uMove, uFrz, uNext, uBreak, uCont, uApp, uIns, uPut, uPutA, uAug, uRaise, uVar, uC, uOp, uUn, uTru, uTst, uNot, uAnd, uOr, uAndV, uOrV, uNotV, uIf, uNil, uCons, argU, uTup, uLst, allD, onDs, onD, onT, onBool, oI, oIC, oAdd, oEq, oIsN, isN_none, isN_int, isN_bool, isN_str, isN_list, isN_tup, truD, oIx, uSl, uPart, uNoP, oSl, uCB, oLen, oList, oTuple, oInt, oAbs, oAll, oAny, oSum, onB, onI, uIs, uIs2, isT, uCall, uCallP, pick, vw, vw1, okU, okX, nolU, nol, nols, startU, kOf, kQ, kT, onL, uSeqI, uRng1, uRng2, rOk, uEnum, uRep, uTupRev, uYes, ugN, ugT2, wipeU, setU, uIfQ, uRetQ, uSetQ, uPutQ, ixC, uPar, uAsgT, uChain, uCall0, sizeLine_eq, oMax2, oSortI, oStrI, oIsB, szD, List.map_cons, List.map_nil, List.length_cons, List.length_nil, List.replicate, List.cons_append, List.nil_append, List.getElem?_cons_zero, List.getElem?_cons_succ, List.set_cons_zero, List.set_cons_succ, Option.map_some, Option.map_none, List.getD, Option.getD_some, if_true, true_and, and_true, Nat.reduceAdd, Nat.reduceSub, reduceIte, Bool.false_eq_true, Bool.not_true, Bool.not_false]
        refine tkN 5000 rfl (by decide) (by decide) fun z hz => ?_
        simp [vw_jk, at_0, at_1, at_2, at_3, at_4, ix_40, ix_41, ix_42, ix_43, boolsD_comp, intsD_comp, sh_int, sh_bool, sh_none, sh_str, ev_int, ev_bool, ev_str, ev_none, ev_ni, ev_in, uIfS, evT, ev, uRet, uRetO, uRetN, uDrop, uSet, uSetO, uMove, uFrz, uNext, uBreak, uCont, uApp, uIns, uPut, uPutA, uAug, uRaise, uVar, uC, uOp, uUn, uTru, uTst, uNot, uAnd, uOr, uAndV, uOrV, uNotV, uIf, uNil, uCons, argU, uTup, uLst, allD, onDs, onD, onT, onBool, oI, oIC, oAdd, oEq, oIsN, isN_none, isN_int, isN_bool, isN_str, isN_list, isN_tup, truD, oIx, uSl, uPart, uNoP, oSl, uCB, oLen, oList, oTuple, oInt, oAbs, oAll, oAny, oSum, onB, onI, uIs, uIs2, isT, uCall, uCallP, pick, vw, vw1, okU, okX, nolU, nol, nols, startU, kOf, kQ, kT, onL, uSeqI, uRng1, uRng2, rOk, uEnum, uRep, uTupRev, uYes, ugN, ugT2, wipeU, setU, uIfQ, uRetQ, uSetQ, uPutQ, ixC, uPar, uAsgT, uChain, uCall0, sizeLine_eq, oMax2, oSortI, oStrI, oIsB, szD, List.map_cons, List.map_nil, List.length_cons, List.length_nil, List.replicate, List.cons_append, List.nil_append, List.getElem?_cons_zero, List.getElem?_cons_succ, List.set_cons_zero, List.set_cons_succ, Option.map_some, Option.map_none, List.getD, Option.getD_some, if_true, true_and, and_true, Nat.reduceAdd, Nat.reduceSub, reduceIte, Bool.false_eq_true, Bool.not_true, Bool.not_false]
        refine num_call (n := 1 + z) (by omega) (by omega) ?_
        exact hp
theorem sc__law_powers : FnScope ["_law_src", "_law_lap", "_law_primes", "_law_unit", "_law_steps", "_law_width", "_law_k", "_law_odds", "_law_odd_here", "_law_lap_k", "_law_some", "_law_told"] ["_law_src", "_law_lap"] (defScope s__law_powers) := ⟨rfl, rfl, rfl, by decide +kernel, rfl, by decide +kernel, by decide +kernel⟩
def fn__law_powers (K : Fr) : Fn := fun as P _ => ∃ lap : Int, as = [.hold HVk, .d (.int lap)] ∧ P (.d (.bool true))
theorem prime_call {y : D} {P : U → Prop} {PX : Ex → Prop} (hs : smI y) (h : P (.d (.bool (priD y)))) : fn_is_prime [.d y] P PX := ⟨y, rfl, hs, h⟩
theorem tried_call {y : D} {P : U → Prop} {PX : Ex → Prop} (hs : smI y) (h : P (.d (.bool (priD y)))) : fn__law_tried [.d y] P PX := ⟨y, rfl, hs, h⟩
theorem sm_int {i : Int} (h : i ≤ 1000000) : smI (.int i) := fun j e => by cases e; exact h
theorem priD_nat {p : Nat} (h : priB p = true) (h2 : 2 ≤ p) : priD (.int (p : Int)) = true := by simp [priD, h, show (2 : Int) ≤ p by omega]
theorem exp_uniq {p c c' : Nat} (h2 : 2 ≤ p) (hc : c % p ≠ 0) (hc' : c' % p ≠ 0) : ∀ {e e' : Nat}, c * p ^ e = c' * p ^ e' → e' = e
  | 0, 0, _ => rfl
  | 0, e' + 1, h => by
    exfalso
    rw [Nat.pow_zero, Nat.mul_one, Nat.pow_succ, ← Nat.mul_assoc] at h
    exact hc (by rw [h]; exact Nat.mul_mod_left _ _)
  | e + 1, 0, h => by
    exfalso
    rw [Nat.pow_zero, Nat.mul_one, Nat.pow_succ, ← Nat.mul_assoc] at h
    exact hc' (by rw [← h]; exact Nat.mul_mod_left _ _)
  | e + 1, e' + 1, h => by
    rw [Nat.pow_succ, ← Nat.mul_assoc, Nat.pow_succ, ← Nat.mul_assoc] at h
    rw [exp_uniq h2 hc hc' (Nat.eq_of_mul_eq_mul_right (by omega) h)]
theorem ref_exp {K : Fr} {a : Nat} {y : D} {lap : Int} {P : U → Prop} {PX : Ex → Prop} (ha : 0 < a) (hs : smI y) (hy : priD y = false) (h : P (.d (.bool true))) : fn__law_refused K [.d (.str "exponent"), .d (.int a), .d y, .d (.int lap), .d (.str "prime")] P PX :=
  ⟨_, _, _, _, _, rfl, strOk_prime, ⟨_, _, _, _, rfl, .inr (.inr (.inr (.inr ⟨rfl, a, y, rfl, ha, hs, fun _ => rfl, fun z => absurd (hy.symm.trans z) Bool.false_ne_true⟩)))⟩, h⟩
theorem ask_exp {K : Fr} {a p c e : Nat} {lap : Int} {P : U → Prop} {PX : Ex → Prop} (hp : priB p = true) (h2 : 2 ≤ p) (h6 : p ≤ 1000000) (ha : a = c * p ^ e) (hc : c % p ≠ 0) (h : P (.d (.int (e : Nat)))) :
    fn__law_asked K [.d (.str "exponent"), .d (.int a), .d (.int p), .d (.int lap)] P PX := by
  refine ⟨_, _, _, _, rfl, .inr (.inr (.inr (.inr ⟨rfl, a, _, rfl, ?_, sm_int (by omega), fun z => absurd (z.symm.trans (priD_nat hp h2)) Bool.false_ne_true, fun _ p' c' e' ep ea ec => ?_⟩)))⟩
  · rw [ha]
    refine Nat.mul_pos ?_ (Nat.pow_pos (by omega))
    rcases Nat.eq_zero_or_pos c with z | z
    · rw [z] at hc; simp at hc
    · exact z
  · obtain rfl := int_nat ep
    have : e' = e := exp_uniq h2 hc ec (ha.symm.trans ea)
    rw [this]; exact h
def odP : List D := [.int 0, .int 1, .int 4, .int 9, .int 91, .int 341, .int 561, .int 1729, .int 999999, .int 1000000, .int (-2), .int (-7), .bool true, .none, .str (Str.ofString "2"), .list [.int 2], .tuple [.int 2], .int 994009, .int 2047]
def smB : D → Bool
  | .int i => decide (i ≤ 1000000)
  | _ => true
theorem sm_of {y : D} (h : smB y = true) : smI y := fun i e => by rw [e] at h; simpa [smB] using h
theorem odP_at {j : Nat} (h : j < 19) : ∃ y, atI odP j = some y ∧ smI y ∧ priD y = false := by
  have k : ∀ y ∈ odP, (smB y && !priD y) = true := by decide +kernel
  have hj : j < odP.length := h
  refine ⟨odP[j], atI_nat rfl (List.getElem?_eq_getElem hj), ?_⟩
  have := k _ (List.getElem_mem hj)
  rw [Bool.and_eq_true, Bool.not_eq_true'] at this
  exact ⟨sm_of this.1, this.2⟩
theorem has__law_powers (T : Tk P K mg) {fd__law_draw : FuncData} (h__law_draw : Has P w K mg base 1 "_law_draw" s__law_draw ["_law_src", "_law_width"] fn__law_draw fd__law_draw) {fd__law_is : FuncData} (h__law_is : Has P w K mg base 2 "_law_is" s__law_is ["_law_got", "_law_due"] fn__law_is fd__law_is) {fd__law_refused : FuncData} (h__law_refused : Has P w K mg base 7 "_law_refused" s__law_refused ["_law_name", "_law_low", "_law_high", "_law_lap", "_law_due"] (fn__law_refused K) fd__law_refused) {fd_is_prime : FuncData} (h_is_prime : Has P w K mg base 2 "is_prime" s_is_prime ["thing"] fn_is_prime fd_is_prime) {fd__law_asked : FuncData} (h__law_asked : Has P w K mg base 6 "_law_asked" s__law_asked ["_law_name", "_law_low", "_law_high", "_law_lap"] (fn__law_asked K) fd__law_asked) {fd__law_great : FuncData} (h__law_great : Has P w K mg base 2 "_law_great" s__law_great ["_law_src", "_law_figures"] fn__law_great fd__law_great) {fd__law_tried : FuncData} (h__law_tried : Has P w K mg base 2 "_law_tried" s__law_tried ["_law_odd_here"] fn__law_tried fd__law_tried) : ∃ fd, Has P w K mg base 8 "_law_powers" s__law_powers ["_law_src", "_law_lap"] (fn__law_powers K) fd := by
  obtain ⟨fd, F⟩ := T.f__law_powers
  have hb := F.binds (ps := ["_law_src", "_law_lap"]) fun _ _ _ _ _ _ us hl => match us, hl with | [_, _], _ => rfl
  refine ⟨fd, T.g__law_powers, F.kp, F, hb, fnD F sc__law_powers (by decide) fun cdv A outer s H E hr => ⟨_, _, (dss_cons (ds_set false 2 (de_lst (da_cons de_int (da_cons de_int (da_cons de_int (da_cons de_int (da_cons de_int (da_cons de_int (da_cons de_int (da_cons de_int (da_cons de_int (da_cons de_int (da_cons de_int da_nil)))))))))))) sc__law_powers.nd)
    (dss_cons (ds_set false 3 (de_ixk (KK := K) (dv 2) (de_own h__law_draw ⟨rfl, rfl, rfl, rfl, rfl⟩ (hr.mono (by decide)) rfl airD (da_cons (dv 0) (da_cons (de_callB (dc_lenk (KK := K)) (by rfl) T.n_len bt_len (da_cons (dv 2) da_nil)) da_nil)))) sc__law_powers.nd)
    (dss_cons (ds_set false 4 (de_own h__law_draw ⟨rfl, rfl, rfl, rfl, rfl⟩ (hr.mono (by decide)) rfl airD (da_cons (dv 0) (da_cons de_int da_nil))) sc__law_powers.nd)
    (dss_cons (ds_if false (dt_cmp do_gt (dv 3) de_int) (dss_one (ds_set false 4 (de_own h__law_draw ⟨rfl, rfl, rfl, rfl, rfl⟩ (hr.mono (by decide)) rfl airD (da_cons (dv 0) (da_cons de_int da_nil))) sc__law_powers.nd)) dss_nil)
    (dss_cons (ds_if false (DW.dt (dw_and (dt_cmp (do_eqk (KK := K) hr.units) (dv 3) de_int) (dw_and1 (dt_cmp (do_eqk (KK := K) hr.units) (de_own h__law_draw ⟨rfl, rfl, rfl, rfl, rfl⟩ (hr.mono (by decide)) rfl airD (da_cons (dv 0) (da_cons de_int da_nil))) de_int)))) (dss_one (ds_set false 4 (de_op (do_addk (KK := K)) (dv 4) de_int) sc__law_powers.nd)) dss_nil)
    (dss_cons (ds_set false 5 (de_op (do_addk (KK := K)) (de_op (do_addk (KK := K)) (de_op do_mul (dv 3) (de_own h__law_great ⟨rfl, rfl, rfl, rfl, rfl⟩ (hr.mono (by decide)) rfl airD (da_cons (dv 0) (da_cons de_int da_nil)))) de_int) (de_own h__law_draw ⟨rfl, rfl, rfl, rfl, rfl⟩ (hr.mono (by decide)) rfl airD (da_cons (dv 0) (da_cons (de_op do_sub (dv 3) de_int) da_nil)))) sc__law_powers.nd)
    (dss_cons (ds_if false (dt_cmp (do_eqk (KK := K) hr.units) (de_own h__law_draw ⟨rfl, rfl, rfl, rfl, rfl⟩ (hr.mono (by decide)) rfl airD (da_cons (dv 0) (da_cons de_int da_nil))) de_int) (dss_one (ds_set false 5 (de_op (do_addk (KK := K)) de_int (de_own h__law_draw ⟨rfl, rfl, rfl, rfl, rfl⟩ (hr.mono (by decide)) rfl airD (da_cons (dv 0) (da_cons (de_op do_sub (dv 3) de_int) da_nil)))) sc__law_powers.nd)) dss_nil)
    (dss_cons (ds_for poD rfl (di_rng1 (dv 4) rfl T.n_range) (dg_name 6 sc__law_powers.nd) (dss_one (ds_set false 5 (de_op do_mul (dv 5) (dv 3)) sc__law_powers.nd)))
    (dss_cons (ds_if false (dt_not (dt_truk (KK := K) (de_own h__law_is ⟨rfl, rfl, rfl, rfl, rfl⟩ (hr.mono (by decide)) rfl airD (da_cons (de_own h__law_asked ⟨rfl, rfl, rfl, rfl, rfl⟩ (hr.mono (by decide)) rfl airD (da_cons de_str (da_cons (dv 5) (da_cons (dv 3) (da_cons (dv 1) da_nil))))) (da_cons (dv 4) da_nil))))) (dss_one (ds_ret false de_bl)) dss_nil)
    (dss_cons (ds_set false 7 (de_lst (da_cons de_int (da_cons de_int (da_cons de_int (da_cons de_int (da_cons de_int (da_cons de_int (da_cons de_int (da_cons de_int (da_cons de_int (da_cons de_int (da_cons (de_un du_neg de_int) (da_cons (de_un du_neg de_int) (da_cons de_bl (da_cons de_non (da_cons de_str (da_cons (de_lst (da_cons de_int da_nil)) (da_cons (de_tup (da_cons de_int da_nil)) (da_cons de_int (da_cons de_int da_nil)))))))))))))))))))) sc__law_powers.nd)
    (dss_cons (ds_set false 8 (de_ixk (KK := K) (dv 7) (de_own h__law_draw ⟨rfl, rfl, rfl, rfl, rfl⟩ (hr.mono (by decide)) rfl airD (da_cons (dv 0) (da_cons (de_callB (dc_lenk (KK := K)) (by rfl) T.n_len bt_len (da_cons (dv 7) da_nil)) da_nil)))) sc__law_powers.nd)
    (dss_cons (ds_if false (dt_not (dt_truk (KK := K) (de_own h__law_refused ⟨rfl, rfl, rfl, rfl, rfl⟩ (hr.mono (by decide)) rfl airD (da_cons de_str (da_cons (dv 5) (da_cons (dv 8) (da_cons (dv 1) (da_cons de_str da_nil)))))))) (dss_one (ds_ret false de_bl)) dss_nil)
    (dss_cons (ds_if false (DW.dt (dw_or (dt_cmp do_notB (de_own h_is_prime ⟨rfl, rfl, rfl, rfl, rfl⟩ (hr.mono (by decide)) rfl airD (da_cons (dv 8) da_nil)) de_bl) (dw_or1 (dt_cmp do_notB (de_own h_is_prime ⟨rfl, rfl, rfl, rfl, rfl⟩ (hr.mono (by decide)) rfl airD (da_cons (dv 3) da_nil)) de_bl)))) (dss_one (ds_ret false de_bl)) dss_nil)
    (dss_cons (ds_for poD rfl (di_rng1 de_int rfl T.n_range) (dg_name 9 sc__law_powers.nd) (dss_cons (ds_set false 10 (de_op do_sub (de_own h__law_draw ⟨rfl, rfl, rfl, rfl, rfl⟩ (hr.mono (by decide)) rfl airD (da_cons (dv 0) (da_cons de_int da_nil))) de_int) sc__law_powers.nd)
    (dss_cons (ds_if false (dt_cmp (do_eqk (KK := K) hr.units) (de_own h__law_draw ⟨rfl, rfl, rfl, rfl, rfl⟩ (hr.mono (by decide)) rfl airD (da_cons (dv 0) (da_cons de_int da_nil))) de_int) (dss_one (ds_set false 10 (de_own h__law_draw ⟨rfl, rfl, rfl, rfl, rfl⟩ (hr.mono (by decide)) rfl airD (da_cons (dv 0) (da_cons de_int da_nil))) sc__law_powers.nd)) dss_nil)
    (dss_cons (ds_set false 11 (de_ownK0 h_is_prime ⟨rfl, rfl, rfl, rfl, rfl⟩ (hr.mono (by decide)) rfl (kb_is_prime_0 h_is_prime.fu) airD (dk_cons (dv 10) dk_nil)) sc__law_powers.nd)
    (dss_one (ds_if false (DW.dt (dw_or (DW.dt (dw_and (dt_truk (KK := K) (de_own h__law_tried ⟨rfl, rfl, rfl, rfl, rfl⟩ (hr.mono (by decide)) rfl airD (da_cons (dv 10) da_nil))) (dw_and1 (dt_cmp do_notB (dv 11) de_bl)))) (dw_or1 (DW.dt (dw_and (dt_not (dt_truk (KK := K) (de_own h__law_tried ⟨rfl, rfl, rfl, rfl, rfl⟩ (hr.mono (by decide)) rfl airD (da_cons (dv 10) da_nil)))) (dw_and1 (dt_cmp do_notB (dv 11) de_bl))))))) (dss_one (ds_ret false de_bl)) dss_nil))))))
    (dss_one (ds_ret false de_bl)))))))))))))))), ?_⟩⟩
  rintro as Q PX hl ⟨lap, rfl, hp⟩
  refine i_seq fun N hN => ?_
  simp [vw_jk, at_0, at_1, at_2, at_3, at_4, ix_40, ix_41, ix_42, ix_43, boolsD_comp, intsD_comp, sh_int, sh_bool, sh_none, sh_str, ev_int, ev_bool, ev_str, ev_none, ev_ni, ev_in, uIfS, evT, ev, uRet, uRetO, uRetN, uDrop, uSet, uSetO, uMove, uFrz, uNext, uBreak, uCont, uApp, uIns, uPut, uPutA, uAug, uRaise, uVar, uC, uOp, uUn, uTru, uTst, uNot, uAnd, uOr, uAndV, uOrV, uNotV, uIf, uNil, uCons, argU, uTup, uLst, allD, onDs, onD, onT, onBool, oI, oIC, oAdd, oEq, oIsN, isN_none, isN_int, isN_bool, isN_str, isN_list, isN_tup, truD, oIx, uSl, uPart, uNoP, oSl, uCB, oLen, oList, oTuple, oInt, oAbs, oAll, oAny, oSum, onB, onI, uIs, uIs2, isT, uCall, uCallP, pick, vw, vw1, okU, okX, nolU, nol, nols, startU, kOf, kQ, kT, onL, uSeqI, uRng1, uRng2, rOk, uEnum, uRep, uTupRev, uYes, ugN, ugT2, wipeU, setU, uIfQ, uRetQ, uSetQ, uPutQ, ixC, uPar, uAsgT, uChain, uCall0, sizeLine_eq, oMax2, oSortI, oStrI, oIsB, szD, List.map_cons, List.map_nil, List.length_cons, List.length_nil, List.replicate, List.cons_append, List.nil_append, List.getElem?_cons_zero, List.getElem?_cons_succ, List.set_cons_zero, List.set_cons_succ, Option.map_some, Option.map_none, List.getD, Option.getD_some, if_true, true_and, and_true, Nat.reduceAdd, Nat.reduceSub, reduceIte, Bool.false_eq_true, Bool.not_true, Bool.not_false]
  rw [hN]
  refine i_seq fun N2 hN2 => ?_
  simp [vw_jk, at_0, at_1, at_2, at_3, at_4, ix_40, ix_41, ix_42, ix_43, boolsD_comp, intsD_comp, sh_int, sh_bool, sh_none, sh_str, ev_int, ev_bool, ev_str, ev_none, ev_ni, ev_in, uIfS, evT, ev, uRet, uRetO, uRetN, uDrop, uSet, uSetO, uMove, uFrz, uNext, uBreak, uCont, uApp, uIns, uPut, uPutA, uAug, uRaise, uVar, uC, uOp, uUn, uTru, uTst, uNot, uAnd, uOr, uAndV, uOrV, uNotV, uIf, uNil, uCons, argU, uTup, uLst, allD, onDs, onD, onT, onBool, oI, oIC, oAdd, oEq, oIsN, isN_none, isN_int, isN_bool, isN_str, isN_list, isN_tup, truD, oIx, uSl, uPart, uNoP, oSl, uCB, oLen, oList, oTuple, oInt, oAbs, oAll, oAny, oSum, onB, onI, uIs, uIs2, isT, uCall, uCallP, pick, vw, vw1, okU, okX, nolU, nol, nols, startU, kOf, kQ, kT, onL, uSeqI, uRng1, uRng2, rOk, uEnum, uRep, uTupRev, uYes, ugN, ugT2, wipeU, setU, uIfQ, uRetQ, uSetQ, uPutQ, ixC, uPar, uAsgT, uChain, uCall0, sizeLine_eq, oMax2, oSortI, oStrI, oIsB, szD, List.map_cons, List.map_nil, List.length_cons, List.length_nil, List.replicate, List.cons_append, List.nil_append, List.getElem?_cons_zero, List.getElem?_cons_succ, List.set_cons_zero, List.set_cons_succ, Option.map_some, Option.map_none, List.getD, Option.getD_some, if_true, true_and, and_true, Nat.reduceAdd, Nat.reduceSub, reduceIte, Bool.false_eq_true, Bool.not_true, Bool.not_false]
  refine tkN 11 rfl (by decide) (by decide) fun q hq => ?_
  simp [vw_jk, at_0, at_1, at_2, at_3, at_4, ix_40, ix_41, ix_42, ix_43, boolsD_comp, intsD_comp, sh_int, sh_bool, sh_none, sh_str, ev_int, ev_bool, ev_str, ev_none, ev_ni, ev_in, uIfS, evT, ev, uRet, uRetO, uRetN, uDrop, uSet, uSetO, uMove, uFrz, uNext, uBreak, uCont, uApp, uIns, uPut, uPutA, uAug, uRaise, uVar, uC, uOp, uUn, uTru, uTst, uNot, uAnd, uOr, uAndV, uOrV, uNotV, uIf, uNil, uCons, argU, uTup, uLst, allD, onDs, onD, onT, onBool, oI, oIC, oAdd, oEq, oIsN, isN_none, isN_int, isN_bool, isN_str, isN_list, isN_tup, truD, oIx, uSl, uPart, uNoP, oSl, uCB, oLen, oList, oTuple, oInt, oAbs, oAll, oAny, oSum, onB, onI, uIs, uIs2, isT, uCall, uCallP, pick, vw, vw1, okU, okX, nolU, nol, nols, startU, kOf, kQ, kT, onL, uSeqI, uRng1, uRng2, rOk, uEnum, uRep, uTupRev, uYes, ugN, ugT2, wipeU, setU, uIfQ, uRetQ, uSetQ, uPutQ, ixC, uPar, uAsgT, uChain, uCall0, sizeLine_eq, oMax2, oSortI, oStrI, oIsB, szD, List.map_cons, List.map_nil, List.length_cons, List.length_nil, List.replicate, List.cons_append, List.nil_append, List.getElem?_cons_zero, List.getElem?_cons_succ, List.set_cons_zero, List.set_cons_succ, Option.map_some, Option.map_none, List.getD, Option.getD_some, if_true, true_and, and_true, Nat.reduceAdd, Nat.reduceSub, reduceIte, Bool.false_eq_true, Bool.not_true, Bool.not_false]
  obtain ⟨p, ep, p2, p6, pp⟩ : ∃ p : Nat, atI [PyData.int 2, PyData.int 3, PyData.int 5, PyData.int 7, PyData.int 11, PyData.int 13, PyData.int 97, PyData.int 101, PyData.int 997, PyData.int 65537, PyData.int 999983] q = some (.int p) ∧ 2 ≤ p ∧ p ≤ 999983 ∧ priB p = true := by
    have : ∀ q, q < 11 → ∃ p : Nat, ([2, 3, 5, 7, 11, 13, 97, 101, 997, 65537, 999983] : List Nat)[q]? = some p ∧ 2 ≤ p ∧ p ≤ 999983 ∧ priB p = true := by
      intro q hq
      have : ∀ p ∈ ([2, 3, 5, 7, 11, 13, 97, 101, 997, 65537, 999983] : List Nat), 2 ≤ p ∧ p ≤ 999983 ∧ priB p = true := by decide +kernel
      exact ⟨_, List.getElem?_eq_getElem (by simpa using hq), this _ (List.getElem_mem _)⟩
    obtain ⟨p, h1, h2⟩ := this q hq
    refine ⟨p, ?_, h2⟩
    have h3 : (natD [2, 3, 5, 7, 11, 13, 97, 101, 997, 65537, 999983])[q]? = some (.int p) := by
      unfold natD
      rw [List.getElem?_map, h1]; rfl
    exact atI_nat rfl h3
  simp only [ep]
  rw [hN2]
  refine i_seq fun N3 hN3 => ?_
  simp [vw_jk, at_0, at_1, at_2, at_3, at_4, ix_40, ix_41, ix_42, ix_43, boolsD_comp, intsD_comp, sh_int, sh_bool, sh_none, sh_str, ev_int, ev_bool, ev_str, ev_none, ev_ni, ev_in, uIfS, evT, ev, uRet, uRetO, uRetN, uDrop, uSet, uSetO, uMove, uFrz, uNext, uBreak, uCont, uApp, uIns, uPut, uPutA, uAug, uRaise, uVar, uC, uOp, uUn, uTru, uTst, uNot, uAnd, uOr, uAndV, uOrV, uNotV, uIf, uNil, uCons, argU, uTup, uLst, allD, onDs, onD, onT, onBool, oI, oIC, oAdd, oEq, oIsN, isN_none, isN_int, isN_bool, isN_str, isN_list, isN_tup, truD, oIx, uSl, uPart, uNoP, oSl, uCB, oLen, oList, oTuple, oInt, oAbs, oAll, oAny, oSum, onB, onI, uIs, uIs2, isT, uCall, uCallP, pick, vw, vw1, okU, okX, nolU, nol, nols, startU, kOf, kQ, kT, onL, uSeqI, uRng1, uRng2, rOk, uEnum, uRep, uTupRev, uYes, ugN, ugT2, wipeU, setU, uIfQ, uRetQ, uSetQ, uPutQ, ixC, uPar, uAsgT, uChain, uCall0, sizeLine_eq, oMax2, oSortI, oStrI, oIsB, szD, List.map_cons, List.map_nil, List.length_cons, List.length_nil, List.replicate, List.cons_append, List.nil_append, List.getElem?_cons_zero, List.getElem?_cons_succ, List.set_cons_zero, List.set_cons_succ, Option.map_some, Option.map_none, List.getD, Option.getD_some, if_true, true_and, and_true, Nat.reduceAdd, Nat.reduceSub, reduceIte, Bool.false_eq_true, Bool.not_true, Bool.not_false]
  refine tkN 12 rfl (by decide) (by decide) fun st hst => ?_
  simp [vw_jk, at_0, at_1, at_2, at_3, at_4, ix_40, ix_41, ix_42, ix_43, boolsD_comp, intsD_comp, sh_int, sh_bool, sh_none, sh_str, ev_int, ev_bool, ev_str, ev_none, ev_ni, ev_in, uIfS, evT, ev, uRet, uRetO, uRetN, uDrop, uSet, uSetO, uMove, uFrz, uNext, uBreak, uCont, uApp, uIns, uPut, uPutA, uAug, uRaise, uVar, uC, uOp, uUn, uTru, uTst, uNot, uAnd, uOr, uAndV, uOrV, uNotV, uIf, uNil, uCons, argU, uTup, uLst, allD, onDs, onD, onT, onBool, oI, oIC, oAdd, oEq, oIsN, isN_none, isN_int, isN_bool, isN_str, isN_list, isN_tup, truD, oIx, uSl, uPart, uNoP, oSl, uCB, oLen, oList, oTuple, oInt, oAbs, oAll, oAny, oSum, onB, onI, uIs, uIs2, isT, uCall, uCallP, pick, vw, vw1, okU, okX, nolU, nol, nols, startU, kOf, kQ, kT, onL, uSeqI, uRng1, uRng2, rOk, uEnum, uRep, uTupRev, uYes, ugN, ugT2, wipeU, setU, uIfQ, uRetQ, uSetQ, uPutQ, ixC, uPar, uAsgT, uChain, uCall0, sizeLine_eq, oMax2, oSortI, oStrI, oIsB, szD, List.map_cons, List.map_nil, List.length_cons, List.length_nil, List.replicate, List.cons_append, List.nil_append, List.getElem?_cons_zero, List.getElem?_cons_succ, List.set_cons_zero, List.set_cons_succ, Option.map_some, Option.map_none, List.getD, Option.getD_some, if_true, true_and, and_true, Nat.reduceAdd, Nat.reduceSub, reduceIte, Bool.false_eq_true, Bool.not_true, Bool.not_false]
  rw [hN3]
  generalize hL : [PyData.int 2, PyData.int 3, PyData.int 5, PyData.int 7, PyData.int 11, PyData.int 13, PyData.int 97, PyData.int 101, PyData.int 997, PyData.int 65537, PyData.int 999983] = L
  clear hL
  refine i_cut (fun s' => ∃ st : Nat, s' = [some (.hold HVk), some (.d (.int lap)), some (.d (.list L)), some (.d (.int p)), some (.d (.int st)), none, none, none, none, none, none, none] ∧ st ≤ 11) ?_ ?_
  rotate_left
  · intro M hM
    simp [vw_jk, at_0, at_1, at_2, at_3, at_4, ix_40, ix_41, ix_42, ix_43, boolsD_comp, intsD_comp, sh_int, sh_bool, sh_none, sh_str, ev_int, ev_bool, ev_str, ev_none, ev_ni, ev_in, uIfS, evT, ev, uRet, uRetO, uRetN, uDrop, uSet, uSetO, uMove, uFrz, uNext, uBreak, uCont, uApp, uIns, uPut, uPutA, uAug, uRaise, uVar, uC, uOp, uUn, uTru, uTst, uNot, uAnd, uOr, uAndV, uOrV, uNotV, uIf, uNil, uCons, argU, uTup, uLst, allD, onDs, onD, onT, onBool, oI, oIC, oAdd, oEq, oIsN, isN_none, isN_int, isN_bool, isN_str, isN_list, isN_tup, truD, oIx, uSl, uPart, uNoP, oSl, uCB, oLen, oList, oTuple, oInt, oAbs, oAll, oAny, oSum, onB, onI, uIs, uIs2, isT, uCall, uCallP, pick, vw, vw1, okU, okX, nolU, nol, nols, startU, kOf, kQ, kT, onL, uSeqI, uRng1, uRng2, rOk, uEnum, uRep, uTupRev, uYes, ugN, ugT2, wipeU, setU, uIfQ, uRetQ, uSetQ, uPutQ, ixC, uPar, uAsgT, uChain, uCall0, sizeLine_eq, oMax2, oSortI, oStrI, oIsB, szD, List.map_cons, List.map_nil, List.length_cons, List.length_nil, List.replicate, List.cons_append, List.nil_append, List.getElem?_cons_zero, List.getElem?_cons_succ, List.set_cons_zero, List.set_cons_succ, Option.map_some, Option.map_none, List.getD, Option.getD_some, if_true, true_and, and_true, Nat.reduceAdd, Nat.reduceSub, reduceIte, Bool.false_eq_true, Bool.not_true, Bool.not_false]
    split
    · refine tkN 6 rfl (by decide) (by decide) fun q hq => ?_
      simp [vw_jk, at_0, at_1, at_2, at_3, at_4, ix_40, ix_41, ix_42, ix_43, boolsD_comp, intsD_comp, sh_int, sh_bool, sh_none, sh_str, ev_int, ev_bool, ev_str, ev_none, ev_ni, ev_in, uIfS, evT, ev, uRet, uRetO, uRetN, uDrop, uSet, uSetO, uMove, uFrz, uNext, uBreak, uCont, uApp, uIns, uPut, uPutA, uAug, uRaise, uVar, uC, uOp, uUn, uTru, uTst, uNot, uAnd, uOr, uAndV, uOrV, uNotV, uIf, uNil, uCons, argU, uTup, uLst, allD, onDs, onD, onT, onBool, oI, oIC, oAdd, oEq, oIsN, isN_none, isN_int, isN_bool, isN_str, isN_list, isN_tup, truD, oIx, uSl, uPart, uNoP, oSl, uCB, oLen, oList, oTuple, oInt, oAbs, oAll, oAny, oSum, onB, onI, uIs, uIs2, isT, uCall, uCallP, pick, vw, vw1, okU, okX, nolU, nol, nols, startU, kOf, kQ, kT, onL, uSeqI, uRng1, uRng2, rOk, uEnum, uRep, uTupRev, uYes, ugN, ugT2, wipeU, setU, uIfQ, uRetQ, uSetQ, uPutQ, ixC, uPar, uAsgT, uChain, uCall0, sizeLine_eq, oMax2, oSortI, oStrI, oIsB, szD, List.map_cons, List.map_nil, List.length_cons, List.length_nil, List.replicate, List.cons_append, List.nil_append, List.getElem?_cons_zero, List.getElem?_cons_succ, List.set_cons_zero, List.set_cons_succ, Option.map_some, Option.map_none, List.getD, Option.getD_some, if_true, true_and, and_true, Nat.reduceAdd, Nat.reduceSub, reduceIte, Bool.false_eq_true, Bool.not_true, Bool.not_false]
      exact hM _ ⟨q, rfl, by omega⟩
    · exact hM _ ⟨st, rfl, by omega⟩
  rintro s' ⟨st, rfl, hst⟩
  refine i_cut (fun s' => ∃ st : Nat, s' = [some (.hold HVk), some (.d (.int lap)), some (.d (.list L)), some (.d (.int p)), some (.d (.int st)), none, none, none, none, none, none, none] ∧ st ≤ 61) ?_ ?_
  rotate_left
  · intro M hM
    simp [vw_jk, at_0, at_1, at_2, at_3, at_4, ix_40, ix_41, ix_42, ix_43, boolsD_comp, intsD_comp, sh_int, sh_bool, sh_none, sh_str, ev_int, ev_bool, ev_str, ev_none, ev_ni, ev_in, uIfS, evT, ev, uRet, uRetO, uRetN, uDrop, uSet, uSetO, uMove, uFrz, uNext, uBreak, uCont, uApp, uIns, uPut, uPutA, uAug, uRaise, uVar, uC, uOp, uUn, uTru, uTst, uNot, uAnd, uOr, uAndV, uOrV, uNotV, uIf, uNil, uCons, argU, uTup, uLst, allD, onDs, onD, onT, onBool, oI, oIC, oAdd, oEq, oIsN, isN_none, isN_int, isN_bool, isN_str, isN_list, isN_tup, truD, oIx, uSl, uPart, uNoP, oSl, uCB, oLen, oList, oTuple, oInt, oAbs, oAll, oAny, oSum, onB, onI, uIs, uIs2, isT, uCall, uCallP, pick, vw, vw1, okU, okX, nolU, nol, nols, startU, kOf, kQ, kT, onL, uSeqI, uRng1, uRng2, rOk, uEnum, uRep, uTupRev, uYes, ugN, ugT2, wipeU, setU, uIfQ, uRetQ, uSetQ, uPutQ, ixC, uPar, uAsgT, uChain, uCall0, sizeLine_eq, oMax2, oSortI, oStrI, oIsB, szD, List.map_cons, List.map_nil, List.length_cons, List.length_nil, List.replicate, List.cons_append, List.nil_append, List.getElem?_cons_zero, List.getElem?_cons_succ, List.set_cons_zero, List.set_cons_succ, Option.map_some, Option.map_none, List.getD, Option.getD_some, if_true, true_and, and_true, Nat.reduceAdd, Nat.reduceSub, reduceIte, Bool.false_eq_true, Bool.not_true, Bool.not_false]
    split
    · refine tkN 2 rfl (by decide) (by decide) fun q hq => ?_
      simp [vw_jk, at_0, at_1, at_2, at_3, at_4, ix_40, ix_41, ix_42, ix_43, boolsD_comp, intsD_comp, sh_int, sh_bool, sh_none, sh_str, ev_int, ev_bool, ev_str, ev_none, ev_ni, ev_in, uIfS, evT, ev, uRet, uRetO, uRetN, uDrop, uSet, uSetO, uMove, uFrz, uNext, uBreak, uCont, uApp, uIns, uPut, uPutA, uAug, uRaise, uVar, uC, uOp, uUn, uTru, uTst, uNot, uAnd, uOr, uAndV, uOrV, uNotV, uIf, uNil, uCons, argU, uTup, uLst, allD, onDs, onD, onT, onBool, oI, oIC, oAdd, oEq, oIsN, isN_none, isN_int, isN_bool, isN_str, isN_list, isN_tup, truD, oIx, uSl, uPart, uNoP, oSl, uCB, oLen, oList, oTuple, oInt, oAbs, oAll, oAny, oSum, onB, onI, uIs, uIs2, isT, uCall, uCallP, pick, vw, vw1, okU, okX, nolU, nol, nols, startU, kOf, kQ, kT, onL, uSeqI, uRng1, uRng2, rOk, uEnum, uRep, uTupRev, uYes, ugN, ugT2, wipeU, setU, uIfQ, uRetQ, uSetQ, uPutQ, ixC, uPar, uAsgT, uChain, uCall0, sizeLine_eq, oMax2, oSortI, oStrI, oIsB, szD, List.map_cons, List.map_nil, List.length_cons, List.length_nil, List.replicate, List.cons_append, List.nil_append, List.getElem?_cons_zero, List.getElem?_cons_succ, List.set_cons_zero, List.set_cons_succ, Option.map_some, Option.map_none, List.getD, Option.getD_some, if_true, true_and, and_true, Nat.reduceAdd, Nat.reduceSub, reduceIte, Bool.false_eq_true, Bool.not_true, Bool.not_false]
      split
      · exact hM _ ⟨st + 50, by simp, by omega⟩
      · exact hM _ ⟨st, rfl, by omega⟩
    · exact hM _ ⟨st, rfl, by omega⟩
  rintro s' ⟨st, rfl, hst⟩
  refine i_seq fun N4 hN4 => ?_
  simp [vw_jk, at_0, at_1, at_2, at_3, at_4, ix_40, ix_41, ix_42, ix_43, boolsD_comp, intsD_comp, sh_int, sh_bool, sh_none, sh_str, ev_int, ev_bool, ev_str, ev_none, ev_ni, ev_in, uIfS, evT, ev, uRet, uRetO, uRetN, uDrop, uSet, uSetO, uMove, uFrz, uNext, uBreak, uCont, uApp, uIns, uPut, uPutA, uAug, uRaise, uVar, uC, uOp, uUn, uTru, uTst, uNot, uAnd, uOr, uAndV, uOrV, uNotV, uIf, uNil, uCons, argU, uTup, uLst, allD, onDs, onD, onT, onBool, oI, oIC, oAdd, oEq, oIsN, isN_none, isN_int, isN_bool, isN_str, isN_list, isN_tup, truD, oIx, uSl, uPart, uNoP, oSl, uCB, oLen, oList, oTuple, oInt, oAbs, oAll, oAny, oSum, onB, onI, uIs, uIs2, isT, uCall, uCallP, pick, vw, vw1, okU, okX, nolU, nol, nols, startU, kOf, kQ, kT, onL, uSeqI, uRng1, uRng2, rOk, uEnum, uRep, uTupRev, uYes, ugN, ugT2, wipeU, setU, uIfQ, uRetQ, uSetQ, uPutQ, ixC, uPar, uAsgT, uChain, uCall0, sizeLine_eq, oMax2, oSortI, oStrI, oIsB, szD, List.map_cons, List.map_nil, List.length_cons, List.length_nil, List.replicate, List.cons_append, List.nil_append, List.getElem?_cons_zero, List.getElem?_cons_succ, List.set_cons_zero, List.set_cons_succ, Option.map_some, Option.map_none, List.getD, Option.getD_some, if_true, true_and, and_true, Nat.reduceAdd, Nat.reduceSub, reduceIte, Bool.false_eq_true, Bool.not_true, Bool.not_false]
  refine gt 15 rfl (by decide) fun r hr => ?_
  simp [vw_jk, at_0, at_1, at_2, at_3, at_4, ix_40, ix_41, ix_42, ix_43, boolsD_comp, intsD_comp, sh_int, sh_bool, sh_none, sh_str, ev_int, ev_bool, ev_str, ev_none, ev_ni, ev_in, uIfS, evT, ev, uRet, uRetO, uRetN, uDrop, uSet, uSetO, uMove, uFrz, uNext, uBreak, uCont, uApp, uIns, uPut, uPutA, uAug, uRaise, uVar, uC, uOp, uUn, uTru, uTst, uNot, uAnd, uOr, uAndV, uOrV, uNotV, uIf, uNil, uCons, argU, uTup, uLst, allD, onDs, onD, onT, onBool, oI, oIC, oAdd, oEq, oIsN, isN_none, isN_int, isN_bool, isN_str, isN_list, isN_tup, truD, oIx, uSl, uPart, uNoP, oSl, uCB, oLen, oList, oTuple, oInt, oAbs, oAll, oAny, oSum, onB, onI, uIs, uIs2, isT, uCall, uCallP, pick, vw, vw1, okU, okX, nolU, nol, nols, startU, kOf, kQ, kT, onL, uSeqI, uRng1, uRng2, rOk, uEnum, uRep, uTupRev, uYes, ugN, ugT2, wipeU, setU, uIfQ, uRetQ, uSetQ, uPutQ, ixC, uPar, uAsgT, uChain, uCall0, sizeLine_eq, oMax2, oSortI, oStrI, oIsB, szD, List.map_cons, List.map_nil, List.length_cons, List.length_nil, List.replicate, List.cons_append, List.nil_append, List.getElem?_cons_zero, List.getElem?_cons_succ, List.set_cons_zero, List.set_cons_succ, Option.map_some, Option.map_none, List.getD, Option.getD_some, if_true, true_and, and_true, Nat.reduceAdd, Nat.reduceSub, reduceIte, Bool.false_eq_true, Bool.not_true, Bool.not_false]
  refine ⟨mulL (by omega), ?_⟩
  refine tkN (p - 1) (by omega) (by omega) (by omega) fun d hd => ?_
  simp [vw_jk, at_0, at_1, at_2, at_3, at_4, ix_40, ix_41, ix_42, ix_43, boolsD_comp, intsD_comp, sh_int, sh_bool, sh_none, sh_str, ev_int, ev_bool, ev_str, ev_none, ev_ni, ev_in, uIfS, evT, ev, uRet, uRetO, uRetN, uDrop, uSet, uSetO, uMove, uFrz, uNext, uBreak, uCont, uApp, uIns, uPut, uPutA, uAug, uRaise, uVar, uC, uOp, uUn, uTru, uTst, uNot, uAnd, uOr, uAndV, uOrV, uNotV, uIf, uNil, uCons, argU, uTup, uLst, allD, onDs, onD, onT, onBool, oI, oIC, oAdd, oEq, oIsN, isN_none, isN_int, isN_bool, isN_str, isN_list, isN_tup, truD, oIx, uSl, uPart, uNoP, oSl, uCB, oLen, oList, oTuple, oInt, oAbs, oAll, oAny, oSum, onB, onI, uIs, uIs2, isT, uCall, uCallP, pick, vw, vw1, okU, okX, nolU, nol, nols, startU, kOf, kQ, kT, onL, uSeqI, uRng1, uRng2, rOk, uEnum, uRep, uTupRev, uYes, ugN, ugT2, wipeU, setU, uIfQ, uRetQ, uSetQ, uPutQ, ixC, uPar, uAsgT, uChain, uCall0, sizeLine_eq, oMax2, oSortI, oStrI, oIsB, szD, List.map_cons, List.map_nil, List.length_cons, List.length_nil, List.replicate, List.cons_append, List.nil_append, List.getElem?_cons_zero, List.getElem?_cons_succ, List.set_cons_zero, List.set_cons_succ, Option.map_some, Option.map_none, List.getD, Option.getD_some, if_true, true_and, and_true, Nat.reduceAdd, Nat.reduceSub, reduceIte, Bool.false_eq_true, Bool.not_true, Bool.not_false]
  rw [hN4]
  refine i_cut (fun s' => ∃ c : Nat, s' = [some (.hold HVk), some (.d (.int lap)), some (.d (.list L)), some (.d (.int p)), some (.d (.int st)), some (.d (.int c)), none, none, none, none, none, none] ∧ c % p ≠ 0) ?_ ?_
  rotate_left
  · intro M hM
    simp [vw_jk, at_0, at_1, at_2, at_3, at_4, ix_40, ix_41, ix_42, ix_43, boolsD_comp, intsD_comp, sh_int, sh_bool, sh_none, sh_str, ev_int, ev_bool, ev_str, ev_none, ev_ni, ev_in, uIfS, evT, ev, uRet, uRetO, uRetN, uDrop, uSet, uSetO, uMove, uFrz, uNext, uBreak, uCont, uApp, uIns, uPut, uPutA, uAug, uRaise, uVar, uC, uOp, uUn, uTru, uTst, uNot, uAnd, uOr, uAndV, uOrV, uNotV, uIf, uNil, uCons, argU, uTup, uLst, allD, onDs, onD, onT, onBool, oI, oIC, oAdd, oEq, oIsN, isN_none, isN_int, isN_bool, isN_str, isN_list, isN_tup, truD, oIx, uSl, uPart, uNoP, oSl, uCB, oLen, oList, oTuple, oInt, oAbs, oAll, oAny, oSum, onB, onI, uIs, uIs2, isT, uCall, uCallP, pick, vw, vw1, okU, okX, nolU, nol, nols, startU, kOf, kQ, kT, onL, uSeqI, uRng1, uRng2, rOk, uEnum, uRep, uTupRev, uYes, ugN, ugT2, wipeU, setU, uIfQ, uRetQ, uSetQ, uPutQ, ixC, uPar, uAsgT, uChain, uCall0, sizeLine_eq, oMax2, oSortI, oStrI, oIsB, szD, List.map_cons, List.map_nil, List.length_cons, List.length_nil, List.replicate, List.cons_append, List.nil_append, List.getElem?_cons_zero, List.getElem?_cons_succ, List.set_cons_zero, List.set_cons_succ, Option.map_some, Option.map_none, List.getD, Option.getD_some, if_true, true_and, and_true, Nat.reduceAdd, Nat.reduceSub, reduceIte, Bool.false_eq_true, Bool.not_true, Bool.not_false]
    refine tkN 3 rfl (by decide) (by decide) fun q hq => ?_
    simp [vw_jk, at_0, at_1, at_2, at_3, at_4, ix_40, ix_41, ix_42, ix_43, boolsD_comp, intsD_comp, sh_int, sh_bool, sh_none, sh_str, ev_int, ev_bool, ev_str, ev_none, ev_ni, ev_in, uIfS, evT, ev, uRet, uRetO, uRetN, uDrop, uSet, uSetO, uMove, uFrz, uNext, uBreak, uCont, uApp, uIns, uPut, uPutA, uAug, uRaise, uVar, uC, uOp, uUn, uTru, uTst, uNot, uAnd, uOr, uAndV, uOrV, uNotV, uIf, uNil, uCons, argU, uTup, uLst, allD, onDs, onD, onT, onBool, oI, oIC, oAdd, oEq, oIsN, isN_none, isN_int, isN_bool, isN_str, isN_list, isN_tup, truD, oIx, uSl, uPart, uNoP, oSl, uCB, oLen, oList, oTuple, oInt, oAbs, oAll, oAny, oSum, onB, onI, uIs, uIs2, isT, uCall, uCallP, pick, vw, vw1, okU, okX, nolU, nol, nols, startU, kOf, kQ, kT, onL, uSeqI, uRng1, uRng2, rOk, uEnum, uRep, uTupRev, uYes, ugN, ugT2, wipeU, setU, uIfQ, uRetQ, uSetQ, uPutQ, ixC, uPar, uAsgT, uChain, uCall0, sizeLine_eq, oMax2, oSortI, oStrI, oIsB, szD, List.map_cons, List.map_nil, List.length_cons, List.length_nil, List.replicate, List.cons_append, List.nil_append, List.getElem?_cons_zero, List.getElem?_cons_succ, List.set_cons_zero, List.set_cons_succ, Option.map_some, Option.map_none, List.getD, Option.getD_some, if_true, true_and, and_true, Nat.reduceAdd, Nat.reduceSub, reduceIte, Bool.false_eq_true, Bool.not_true, Bool.not_false]
    split
    · refine tkN (p - 1) (by omega) (by omega) (by omega) fun d2 hd2 => ?_
      simp [vw_jk, at_0, at_1, at_2, at_3, at_4, ix_40, ix_41, ix_42, ix_43, boolsD_comp, intsD_comp, sh_int, sh_bool, sh_none, sh_str, ev_int, ev_bool, ev_str, ev_none, ev_ni, ev_in, uIfS, evT, ev, uRet, uRetO, uRetN, uDrop, uSet, uSetO, uMove, uFrz, uNext, uBreak, uCont, uApp, uIns, uPut, uPutA, uAug, uRaise, uVar, uC, uOp, uUn, uTru, uTst, uNot, uAnd, uOr, uAndV, uOrV, uNotV, uIf, uNil, uCons, argU, uTup, uLst, allD, onDs, onD, onT, onBool, oI, oIC, oAdd, oEq, oIsN, isN_none, isN_int, isN_bool, isN_str, isN_list, isN_tup, truD, oIx, uSl, uPart, uNoP, oSl, uCB, oLen, oList, oTuple, oInt, oAbs, oAll, oAny, oSum, onB, onI, uIs, uIs2, isT, uCall, uCallP, pick, vw, vw1, okU, okX, nolU, nol, nols, startU, kOf, kQ, kT, onL, uSeqI, uRng1, uRng2, rOk, uEnum, uRep, uTupRev, uYes, ugN, ugT2, wipeU, setU, uIfQ, uRetQ, uSetQ, uPutQ, ixC, uPar, uAsgT, uChain, uCall0, sizeLine_eq, oMax2, oSortI, oStrI, oIsB, szD, List.map_cons, List.map_nil, List.length_cons, List.length_nil, List.replicate, List.cons_append, List.nil_append, List.getElem?_cons_zero, List.getElem?_cons_succ, List.set_cons_zero, List.set_cons_succ, Option.map_some, Option.map_none, List.getD, Option.getD_some, if_true, true_and, and_true, Nat.reduceAdd, Nat.reduceSub, reduceIte, Bool.false_eq_true, Bool.not_true, Bool.not_false]
      exact hM _ ⟨1 + d2, by simp, by rw [Nat.mod_eq_of_lt (by omega)]; omega⟩
    · exact hM _ ⟨p * r + 1 + d, by simp, by rw [Nat.add_assoc, Nat.mul_add_mod, Nat.mod_eq_of_lt (by omega)]; omega⟩
  rintro s' ⟨c, rfl, hc⟩
  refine i_seq fun N5 hN5 => ?_
  refine i_for2 ?_
  simp [vw_jk, at_0, at_1, at_2, at_3, at_4, ix_40, ix_41, ix_42, ix_43, boolsD_comp, intsD_comp, sh_int, sh_bool, sh_none, sh_str, ev_int, ev_bool, ev_str, ev_none, ev_ni, ev_in, uIfS, evT, ev, uRet, uRetO, uRetN, uDrop, uSet, uSetO, uMove, uFrz, uNext, uBreak, uCont, uApp, uIns, uPut, uPutA, uAug, uRaise, uVar, uC, uOp, uUn, uTru, uTst, uNot, uAnd, uOr, uAndV, uOrV, uNotV, uIf, uNil, uCons, argU, uTup, uLst, allD, onDs, onD, onT, onBool, oI, oIC, oAdd, oEq, oIsN, isN_none, isN_int, isN_bool, isN_str, isN_list, isN_tup, truD, oIx, uSl, uPart, uNoP, oSl, uCB, oLen, oList, oTuple, oInt, oAbs, oAll, oAny, oSum, onB, onI, uIs, uIs2, isT, uCall, uCallP, pick, vw, vw1, okU, okX, nolU, nol, nols, startU, kOf, kQ, kT, onL, uSeqI, uRng1, uRng2, rOk, uEnum, uRep, uTupRev, uYes, ugN, ugT2, wipeU, setU, uIfQ, uRetQ, uSetQ, uPutQ, ixC, uPar, uAsgT, uChain, uCall0, sizeLine_eq, oMax2, oSortI, oStrI, oIsB, szD, List.map_cons, List.map_nil, List.length_cons, List.length_nil, List.replicate, List.cons_append, List.nil_append, List.getElem?_cons_zero, List.getElem?_cons_succ, List.set_cons_zero, List.set_cons_succ, Option.map_some, Option.map_none, List.getD, Option.getD_some, if_true, true_and, and_true, Nat.reduceAdd, Nat.reduceSub, reduceIte, Bool.false_eq_true, Bool.not_true, Bool.not_false]
  refine ⟨by omega, ?_⟩
  refine f_in (fun i s' => ∃ o : Option D, s' = [some (.hold HVk), some (.d (.int lap)), some (.d (.list L)), some (.d (.int p)), some (.d (.int st)), some (.d (.int (c * p ^ i : Nat))), jk o, none, none, none, none, none]) ⟨none, by simp; rfl⟩ (fun i d s' e hi hs NX hNX => ?_) (fun s' hs => ?_)
  · obtain ⟨o, rfl⟩ := hs
    simp only [vw_jk, at_0, at_1, at_2, at_3, at_4, ix_40, ix_41, ix_42, ix_43, boolsD_comp, intsD_comp, sh_int, sh_bool, sh_none, sh_str, ev_int, ev_bool, ev_str, ev_none, ev_ni, ev_in, uIfS, evT, ev, uRet, uRetO, uRetN, uDrop, uSet, uSetO, uMove, uFrz, uNext, uBreak, uCont, uApp, uIns, uPut, uPutA, uAug, uRaise, uVar, uC, uOp, uUn, uTru, uTst, uNot, uAnd, uOr, uAndV, uOrV, uNotV, uIf, uNil, uCons, argU, uTup, uLst, allD, onDs, onD, onT, onBool, oI, oIC, oAdd, oEq, oIsN, isN_none, isN_int, isN_bool, isN_str, isN_list, isN_tup, truD, oIx, uSl, uPart, uNoP, oSl, uCB, oLen, oList, oTuple, oInt, oAbs, oAll, oAny, oSum, onB, onI, uIs, uIs2, isT, uCall, uCallP, pick, vw, vw1, okU, okX, nolU, nol, nols, startU, kOf, kQ, kT, onL, uSeqI, uRng1, uRng2, rOk, uEnum, uRep, uTupRev, uYes, ugN, ugT2, wipeU, setU, uIfQ, uRetQ, uSetQ, uPutQ, ixC, uPar, uAsgT, uChain, uCall0, sizeLine_eq, oMax2, oSortI, oStrI, oIsB, szD, List.map_cons, List.map_nil, List.length_cons, List.length_nil, List.replicate, List.cons_append, List.nil_append, List.getElem?_cons_zero, List.getElem?_cons_succ, List.set_cons_zero, List.set_cons_succ, Option.map_some, Option.map_none, List.getD, Option.getD_some, if_true, true_and, and_true, Nat.reduceAdd, Nat.reduceSub, reduceIte, Bool.false_eq_true, Bool.not_true, Bool.not_false]
    refine ⟨_, rfl, ?_⟩
    simp only [vw_jk, at_0, at_1, at_2, at_3, at_4, ix_40, ix_41, ix_42, ix_43, boolsD_comp, intsD_comp, sh_int, sh_bool, sh_none, sh_str, ev_int, ev_bool, ev_str, ev_none, ev_ni, ev_in, uIfS, evT, ev, uRet, uRetO, uRetN, uDrop, uSet, uSetO, uMove, uFrz, uNext, uBreak, uCont, uApp, uIns, uPut, uPutA, uAug, uRaise, uVar, uC, uOp, uUn, uTru, uTst, uNot, uAnd, uOr, uAndV, uOrV, uNotV, uIf, uNil, uCons, argU, uTup, uLst, allD, onDs, onD, onT, onBool, oI, oIC, oAdd, oEq, oIsN, isN_none, isN_int, isN_bool, isN_str, isN_list, isN_tup, truD, oIx, uSl, uPart, uNoP, oSl, uCB, oLen, oList, oTuple, oInt, oAbs, oAll, oAny, oSum, onB, onI, uIs, uIs2, isT, uCall, uCallP, pick, vw, vw1, okU, okX, nolU, nol, nols, startU, kOf, kQ, kT, onL, uSeqI, uRng1, uRng2, rOk, uEnum, uRep, uTupRev, uYes, ugN, ugT2, wipeU, setU, uIfQ, uRetQ, uSetQ, uPutQ, ixC, uPar, uAsgT, uChain, uCall0, sizeLine_eq, oMax2, oSortI, oStrI, oIsB, szD, List.map_cons, List.map_nil, List.length_cons, List.length_nil, List.replicate, List.cons_append, List.nil_append, List.getElem?_cons_zero, List.getElem?_cons_succ, List.set_cons_zero, List.set_cons_succ, Option.map_some, Option.map_none, List.getD, Option.getD_some, if_true, true_and, and_true, Nat.reduceAdd, Nat.reduceSub, reduceIte, Bool.false_eq_true, Bool.not_true, Bool.not_false]
    refine ⟨mulR (by omega), hNX _ ⟨some d, ?_⟩⟩
    rw [Nat.pow_succ, ← Nat.mul_assoc, Int.natCast_mul]
    rfl
  · obtain ⟨o, rfl⟩ := hs
    show N5 _
    have el : (rngD 0 st).length = st := by rw [rngD_len]
    rw [hN5, el]
    generalize ha : c * p ^ st = a
    have ha2 : a = c * p ^ st := ha.symm
    refine i_seq fun N6 hN6 => ?_
    simp [vw_jk, at_0, at_1, at_2, at_3, at_4, ix_40, ix_41, ix_42, ix_43, boolsD_comp, intsD_comp, sh_int, sh_bool, sh_none, sh_str, ev_int, ev_bool, ev_str, ev_none, ev_ni, ev_in, uIfS, evT, ev, uRet, uRetO, uRetN, uDrop, uSet, uSetO, uMove, uFrz, uNext, uBreak, uCont, uApp, uIns, uPut, uPutA, uAug, uRaise, uVar, uC, uOp, uUn, uTru, uTst, uNot, uAnd, uOr, uAndV, uOrV, uNotV, uIf, uNil, uCons, argU, uTup, uLst, allD, onDs, onD, onT, onBool, oI, oIC, oAdd, oEq, oIsN, isN_none, isN_int, isN_bool, isN_str, isN_list, isN_tup, truD, oIx, uSl, uPart, uNoP, oSl, uCB, oLen, oList, oTuple, oInt, oAbs, oAll, oAny, oSum, onB, onI, uIs, uIs2, isT, uCall, uCallP, pick, vw, vw1, okU, okX, nolU, nol, nols, startU, kOf, kQ, kT, onL, uSeqI, uRng1, uRng2, rOk, uEnum, uRep, uTupRev, uYes, ugN, ugT2, wipeU, setU, uIfQ, uRetQ, uSetQ, uPutQ, ixC, uPar, uAsgT, uChain, uCall0, sizeLine_eq, oMax2, oSortI, oStrI, oIsB, szD, List.map_cons, List.map_nil, List.length_cons, List.length_nil, List.replicate, List.cons_append, List.nil_append, List.getElem?_cons_zero, List.getElem?_cons_succ, List.set_cons_zero, List.set_cons_succ, Option.map_some, Option.map_none, List.getD, Option.getD_some, if_true, true_and, and_true, Nat.reduceAdd, Nat.reduceSub, reduceIte, Bool.false_eq_true, Bool.not_true, Bool.not_false]
    refine ask_exp pp p2 (by omega) ha2 hc ?_
    simp [vw_jk, at_0, at_1, at_2, at_3, at_4, ix_40, ix_41, ix_42, ix_43, boolsD_comp, intsD_comp, sh_int, sh_bool, sh_none, sh_str, ev_int, ev_bool, ev_str, ev_none, ev_ni, ev_in, uIfS, evT, ev, uRet, uRetO, uRetN, uDrop, uSet, uSetO, uMove, uFrz, uNext, uBreak, uCont, uApp, uIns, uPut, uPutA, uAug, uRaise, uVar, uC, uOp, uUn, uTru, uTst, uNot, uAnd, uOr, uAndV, uOrV, uNotV, uIf, uNil, uCons, argU, uTup, uLst, allD, onDs, onD, onT, onBool, oI, oIC, oAdd, oEq, oIsN, isN_none, isN_int, isN_bool, isN_str, isN_list, isN_tup, truD, oIx, uSl, uPart, uNoP, oSl, uCB, oLen, oList, oTuple, oInt, oAbs, oAll, oAny, oSum, onB, onI, uIs, uIs2, isT, uCall, uCallP, pick, vw, vw1, okU, okX, nolU, nol, nols, startU, kOf, kQ, kT, onL, uSeqI, uRng1, uRng2, rOk, uEnum, uRep, uTupRev, uYes, ugN, ugT2, wipeU, setU, uIfQ, uRetQ, uSetQ, uPutQ, ixC, uPar, uAsgT, uChain, uCall0, sizeLine_eq, oMax2, oSortI, oStrI, oIsB, szD, List.map_cons, List.map_nil, List.length_cons, List.length_nil, List.replicate, List.cons_append, List.nil_append, List.getElem?_cons_zero, List.getElem?_cons_succ, List.set_cons_zero, List.set_cons_succ, Option.map_some, Option.map_none, List.getD, Option.getD_some, if_true, true_and, and_true, Nat.reduceAdd, Nat.reduceSub, reduceIte, Bool.false_eq_true, Bool.not_true, Bool.not_false, is_iff, eqI_self]
    rw [hN6]
    refine i_seq fun N7 hN7 => ?_
    simp [vw_jk, at_0, at_1, at_2, at_3, at_4, ix_40, ix_41, ix_42, ix_43, boolsD_comp, intsD_comp, sh_int, sh_bool, sh_none, sh_str, ev_int, ev_bool, ev_str, ev_none, ev_ni, ev_in, uIfS, evT, ev, uRet, uRetO, uRetN, uDrop, uSet, uSetO, uMove, uFrz, uNext, uBreak, uCont, uApp, uIns, uPut, uPutA, uAug, uRaise, uVar, uC, uOp, uUn, uTru, uTst, uNot, uAnd, uOr, uAndV, uOrV, uNotV, uIf, uNil, uCons, argU, uTup, uLst, allD, onDs, onD, onT, onBool, oI, oIC, oAdd, oEq, oIsN, isN_none, isN_int, isN_bool, isN_str, isN_list, isN_tup, truD, oIx, uSl, uPart, uNoP, oSl, uCB, oLen, oList, oTuple, oInt, oAbs, oAll, oAny, oSum, onB, onI, uIs, uIs2, isT, uCall, uCallP, pick, vw, vw1, okU, okX, nolU, nol, nols, startU, kOf, kQ, kT, onL, uSeqI, uRng1, uRng2, rOk, uEnum, uRep, uTupRev, uYes, ugN, ugT2, wipeU, setU, uIfQ, uRetQ, uSetQ, uPutQ, ixC, uPar, uAsgT, uChain, uCall0, sizeLine_eq, oMax2, oSortI, oStrI, oIsB, szD, List.map_cons, List.map_nil, List.length_cons, List.length_nil, List.replicate, List.cons_append, List.nil_append, List.getElem?_cons_zero, List.getElem?_cons_succ, List.set_cons_zero, List.set_cons_succ, Option.map_some, Option.map_none, List.getD, Option.getD_some, if_true, true_and, and_true, Nat.reduceAdd, Nat.reduceSub, reduceIte, Bool.false_eq_true, Bool.not_true, Bool.not_false]
    rw [hN7]
    refine i_seq fun N8 hN8 => ?_
    simp [vw_jk, at_0, at_1, at_2, at_3, at_4, ix_40, ix_41, ix_42, ix_43, boolsD_comp, intsD_comp, sh_int, sh_bool, sh_none, sh_str, ev_int, ev_bool, ev_str, ev_none, ev_ni, ev_in, uIfS, evT, ev, uRet, uRetO, uRetN, uDrop, uSet, uSetO, uMove, uFrz, uNext, uBreak, uCont, uApp, uIns, uPut, uPutA, uAug, uRaise, uVar, uC, uOp, uUn, uTru, uTst, uNot, uAnd, uOr, uAndV, uOrV, uNotV, uIf, uNil, uCons, argU, uTup, uLst, allD, onDs, onD, onT, onBool, oI, oIC, oAdd, oEq, oIsN, isN_none, isN_int, isN_bool, isN_str, isN_list, isN_tup, truD, oIx, uSl, uPart, uNoP, oSl, uCB, oLen, oList, oTuple, oInt, oAbs, oAll, oAny, oSum, onB, onI, uIs, uIs2, isT, uCall, uCallP, pick, vw, vw1, okU, okX, nolU, nol, nols, startU, kOf, kQ, kT, onL, uSeqI, uRng1, uRng2, rOk, uEnum, uRep, uTupRev, uYes, ugN, ugT2, wipeU, setU, uIfQ, uRetQ, uSetQ, uPutQ, ixC, uPar, uAsgT, uChain, uCall0, sizeLine_eq, oMax2, oSortI, oStrI, oIsB, szD, List.map_cons, List.map_nil, List.length_cons, List.length_nil, List.replicate, List.cons_append, List.nil_append, List.getElem?_cons_zero, List.getElem?_cons_succ, List.set_cons_zero, List.set_cons_succ, Option.map_some, Option.map_none, List.getD, Option.getD_some, if_true, true_and, and_true, Nat.reduceAdd, Nat.reduceSub, reduceIte, Bool.false_eq_true, Bool.not_true, Bool.not_false]
    refine tkN 19 rfl (by decide) (by decide) fun j hj => ?_
    simp [vw_jk, at_0, at_1, at_2, at_3, at_4, ix_40, ix_41, ix_42, ix_43, boolsD_comp, intsD_comp, sh_int, sh_bool, sh_none, sh_str, ev_int, ev_bool, ev_str, ev_none, ev_ni, ev_in, uIfS, evT, ev, uRet, uRetO, uRetN, uDrop, uSet, uSetO, uMove, uFrz, uNext, uBreak, uCont, uApp, uIns, uPut, uPutA, uAug, uRaise, uVar, uC, uOp, uUn, uTru, uTst, uNot, uAnd, uOr, uAndV, uOrV, uNotV, uIf, uNil, uCons, argU, uTup, uLst, allD, onDs, onD, onT, onBool, oI, oIC, oAdd, oEq, oIsN, isN_none, isN_int, isN_bool, isN_str, isN_list, isN_tup, truD, oIx, uSl, uPart, uNoP, oSl, uCB, oLen, oList, oTuple, oInt, oAbs, oAll, oAny, oSum, onB, onI, uIs, uIs2, isT, uCall, uCallP, pick, vw, vw1, okU, okX, nolU, nol, nols, startU, kOf, kQ, kT, onL, uSeqI, uRng1, uRng2, rOk, uEnum, uRep, uTupRev, uYes, ugN, ugT2, wipeU, setU, uIfQ, uRetQ, uSetQ, uPutQ, ixC, uPar, uAsgT, uChain, uCall0, sizeLine_eq, oMax2, oSortI, oStrI, oIsB, szD, List.map_cons, List.map_nil, List.length_cons, List.length_nil, List.replicate, List.cons_append, List.nil_append, List.getElem?_cons_zero, List.getElem?_cons_succ, List.set_cons_zero, List.set_cons_succ, Option.map_some, Option.map_none, List.getD, Option.getD_some, if_true, true_and, and_true, Nat.reduceAdd, Nat.reduceSub, reduceIte, Bool.false_eq_true, Bool.not_true, Bool.not_false]
    have k1 : [PyData.int 0, PyData.int 1, PyData.int 4, PyData.int 9, PyData.int 91, PyData.int 341, PyData.int 561, PyData.int 1729, PyData.int 999999, PyData.int 1000000, PyData.int (-2), PyData.int (-7), PyData.bool true, PyData.none, PyData.str (Str.ofString "2"), PyData.list [PyData.int 2], PyData.tuple [PyData.int 2], PyData.int 994009, PyData.int 2047] = odP := rfl
    rw [k1]
    obtain ⟨y, y1, y2, y3⟩ := odP_at hj
    simp only [y1]
    rw [hN8]
    have a0 : 0 < a := by
      rw [ha2]
      refine Nat.mul_pos ?_ (Nat.pow_pos (by omega))
      rcases Nat.eq_zero_or_pos c with z | z
      · rw [z] at hc; simp at hc
      · exact z
    refine i_seq fun N9 hN9 => ?_
    simp [vw_jk, at_0, at_1, at_2, at_3, at_4, ix_40, ix_41, ix_42, ix_43, boolsD_comp, intsD_comp, sh_int, sh_bool, sh_none, sh_str, ev_int, ev_bool, ev_str, ev_none, ev_ni, ev_in, uIfS, evT, ev, uRet, uRetO, uRetN, uDrop, uSet, uSetO, uMove, uFrz, uNext, uBreak, uCont, uApp, uIns, uPut, uPutA, uAug, uRaise, uVar, uC, uOp, uUn, uTru, uTst, uNot, uAnd, uOr, uAndV, uOrV, uNotV, uIf, uNil, uCons, argU, uTup, uLst, allD, onDs, onD, onT, onBool, oI, oIC, oAdd, oEq, oIsN, isN_none, isN_int, isN_bool, isN_str, isN_list, isN_tup, truD, oIx, uSl, uPart, uNoP, oSl, uCB, oLen, oList, oTuple, oInt, oAbs, oAll, oAny, oSum, onB, onI, uIs, uIs2, isT, uCall, uCallP, pick, vw, vw1, okU, okX, nolU, nol, nols, startU, kOf, kQ, kT, onL, uSeqI, uRng1, uRng2, rOk, uEnum, uRep, uTupRev, uYes, ugN, ugT2, wipeU, setU, uIfQ, uRetQ, uSetQ, uPutQ, ixC, uPar, uAsgT, uChain, uCall0, sizeLine_eq, oMax2, oSortI, oStrI, oIsB, szD, List.map_cons, List.map_nil, List.length_cons, List.length_nil, List.replicate, List.cons_append, List.nil_append, List.getElem?_cons_zero, List.getElem?_cons_succ, List.set_cons_zero, List.set_cons_succ, Option.map_some, Option.map_none, List.getD, Option.getD_some, if_true, true_and, and_true, Nat.reduceAdd, Nat.reduceSub, reduceIte, Bool.false_eq_true, Bool.not_true, Bool.not_false]
    refine ref_exp a0 y2 y3 ?_
    simp [vw_jk, at_0, at_1, at_2, at_3, at_4, ix_40, ix_41, ix_42, ix_43, boolsD_comp, intsD_comp, sh_int, sh_bool, sh_none, sh_str, ev_int, ev_bool, ev_str, ev_none, ev_ni, ev_in, uIfS, evT, ev, uRet, uRetO, uRetN, uDrop, uSet, uSetO, uMove, uFrz, uNext, uBreak, uCont, uApp, uIns, uPut, uPutA, uAug, uRaise, uVar, uC, uOp, uUn, uTru, uTst, uNot, uAnd, uOr, uAndV, uOrV, uNotV, uIf, uNil, uCons, argU, uTup, uLst, allD, onDs, onD, onT, onBool, oI, oIC, oAdd, oEq, oIsN, isN_none, isN_int, isN_bool, isN_str, isN_list, isN_tup, truD, oIx, uSl, uPart, uNoP, oSl, uCB, oLen, oList, oTuple, oInt, oAbs, oAll, oAny, oSum, onB, onI, uIs, uIs2, isT, uCall, uCallP, pick, vw, vw1, okU, okX, nolU, nol, nols, startU, kOf, kQ, kT, onL, uSeqI, uRng1, uRng2, rOk, uEnum, uRep, uTupRev, uYes, ugN, ugT2, wipeU, setU, uIfQ, uRetQ, uSetQ, uPutQ, ixC, uPar, uAsgT, uChain, uCall0, sizeLine_eq, oMax2, oSortI, oStrI, oIsB, szD, List.map_cons, List.map_nil, List.length_cons, List.length_nil, List.replicate, List.cons_append, List.nil_append, List.getElem?_cons_zero, List.getElem?_cons_succ, List.set_cons_zero, List.set_cons_succ, Option.map_some, Option.map_none, List.getD, Option.getD_some, if_true, true_and, and_true, Nat.reduceAdd, Nat.reduceSub, reduceIte, Bool.false_eq_true, Bool.not_true, Bool.not_false]
    rw [hN9]
    refine i_seq fun N10 hN10 => ?_
    simp [vw_jk, at_0, at_1, at_2, at_3, at_4, ix_40, ix_41, ix_42, ix_43, boolsD_comp, intsD_comp, sh_int, sh_bool, sh_none, sh_str, ev_int, ev_bool, ev_str, ev_none, ev_ni, ev_in, uIfS, evT, ev, uRet, uRetO, uRetN, uDrop, uSet, uSetO, uMove, uFrz, uNext, uBreak, uCont, uApp, uIns, uPut, uPutA, uAug, uRaise, uVar, uC, uOp, uUn, uTru, uTst, uNot, uAnd, uOr, uAndV, uOrV, uNotV, uIf, uNil, uCons, argU, uTup, uLst, allD, onDs, onD, onT, onBool, oI, oIC, oAdd, oEq, oIsN, isN_none, isN_int, isN_bool, isN_str, isN_list, isN_tup, truD, oIx, uSl, uPart, uNoP, oSl, uCB, oLen, oList, oTuple, oInt, oAbs, oAll, oAny, oSum, onB, onI, uIs, uIs2, isT, uCall, uCallP, pick, vw, vw1, okU, okX, nolU, nol, nols, startU, kOf, kQ, kT, onL, uSeqI, uRng1, uRng2, rOk, uEnum, uRep, uTupRev, uYes, ugN, ugT2, wipeU, setU, uIfQ, uRetQ, uSetQ, uPutQ, ixC, uPar, uAsgT, uChain, uCall0, sizeLine_eq, oMax2, oSortI, oStrI, oIsB, szD, List.map_cons, List.map_nil, List.length_cons, List.length_nil, List.replicate, List.cons_append, List.nil_append, List.getElem?_cons_zero, List.getElem?_cons_succ, List.set_cons_zero, List.set_cons_succ, Option.map_some, Option.map_none, List.getD, Option.getD_some, if_true, true_and, and_true, Nat.reduceAdd, Nat.reduceSub, reduceIte, Bool.false_eq_true, Bool.not_true, Bool.not_false]
    refine prime_call y2 ?_
    rw [y3]
    simp [vw_jk, at_0, at_1, at_2, at_3, at_4, ix_40, ix_41, ix_42, ix_43, boolsD_comp, intsD_comp, sh_int, sh_bool, sh_none, sh_str, ev_int, ev_bool, ev_str, ev_none, ev_ni, ev_in, uIfS, evT, ev, uRet, uRetO, uRetN, uDrop, uSet, uSetO, uMove, uFrz, uNext, uBreak, uCont, uApp, uIns, uPut, uPutA, uAug, uRaise, uVar, uC, uOp, uUn, uTru, uTst, uNot, uAnd, uOr, uAndV, uOrV, uNotV, uIf, uNil, uCons, argU, uTup, uLst, allD, onDs, onD, onT, onBool, oI, oIC, oAdd, oEq, oIsN, isN_none, isN_int, isN_bool, isN_str, isN_list, isN_tup, truD, oIx, uSl, uPart, uNoP, oSl, uCB, oLen, oList, oTuple, oInt, oAbs, oAll, oAny, oSum, onB, onI, uIs, uIs2, isT, uCall, uCallP, pick, vw, vw1, okU, okX, nolU, nol, nols, startU, kOf, kQ, kT, onL, uSeqI, uRng1, uRng2, rOk, uEnum, uRep, uTupRev, uYes, ugN, ugT2, wipeU, setU, uIfQ, uRetQ, uSetQ, uPutQ, ixC, uPar, uAsgT, uChain, uCall0, sizeLine_eq, oMax2, oSortI, oStrI, oIsB, szD, List.map_cons, List.map_nil, List.length_cons, List.length_nil, List.replicate, List.cons_append, List.nil_append, List.getElem?_cons_zero, List.getElem?_cons_succ, List.set_cons_zero, List.set_cons_succ, Option.map_some, Option.map_none, List.getD, Option.getD_some, if_true, true_and, and_true, Nat.reduceAdd, Nat.reduceSub, reduceIte, Bool.false_eq_true, Bool.not_true, Bool.not_false]
    refine prime_call (sm_int (by omega)) ?_
    rw [priD_nat pp p2]
    simp [vw_jk, at_0, at_1, at_2, at_3, at_4, ix_40, ix_41, ix_42, ix_43, boolsD_comp, intsD_comp, sh_int, sh_bool, sh_none, sh_str, ev_int, ev_bool, ev_str, ev_none, ev_ni, ev_in, uIfS, evT, ev, uRet, uRetO, uRetN, uDrop, uSet, uSetO, uMove, uFrz, uNext, uBreak, uCont, uApp, uIns, uPut, uPutA, uAug, uRaise, uVar, uC, uOp, uUn, uTru, uTst, uNot, uAnd, uOr, uAndV, uOrV, uNotV, uIf, uNil, uCons, argU, uTup, uLst, allD, onDs, onD, onT, onBool, oI, oIC, oAdd, oEq, oIsN, isN_none, isN_int, isN_bool, isN_str, isN_list, isN_tup, truD, oIx, uSl, uPart, uNoP, oSl, uCB, oLen, oList, oTuple, oInt, oAbs, oAll, oAny, oSum, onB, onI, uIs, uIs2, isT, uCall, uCallP, pick, vw, vw1, okU, okX, nolU, nol, nols, startU, kOf, kQ, kT, onL, uSeqI, uRng1, uRng2, rOk, uEnum, uRep, uTupRev, uYes, ugN, ugT2, wipeU, setU, uIfQ, uRetQ, uSetQ, uPutQ, ixC, uPar, uAsgT, uChain, uCall0, sizeLine_eq, oMax2, oSortI, oStrI, oIsB, szD, List.map_cons, List.map_nil, List.length_cons, List.length_nil, List.replicate, List.cons_append, List.nil_append, List.getElem?_cons_zero, List.getElem?_cons_succ, List.set_cons_zero, List.set_cons_succ, Option.map_some, Option.map_none, List.getD, Option.getD_some, if_true, true_and, and_true, Nat.reduceAdd, Nat.reduceSub, reduceIte, Bool.false_eq_true, Bool.not_true, Bool.not_false]
    rw [hN10]
    refine i_seq fun N11 hN11 => ?_
    refine i_for2 ?_
    simp [vw_jk, at_0, at_1, at_2, at_3, at_4, ix_40, ix_41, ix_42, ix_43, boolsD_comp, intsD_comp, sh_int, sh_bool, sh_none, sh_str, ev_int, ev_bool, ev_str, ev_none, ev_ni, ev_in, uIfS, evT, ev, uRet, uRetO, uRetN, uDrop, uSet, uSetO, uMove, uFrz, uNext, uBreak, uCont, uApp, uIns, uPut, uPutA, uAug, uRaise, uVar, uC, uOp, uUn, uTru, uTst, uNot, uAnd, uOr, uAndV, uOrV, uNotV, uIf, uNil, uCons, argU, uTup, uLst, allD, onDs, onD, onT, onBool, oI, oIC, oAdd, oEq, oIsN, isN_none, isN_int, isN_bool, isN_str, isN_list, isN_tup, truD, oIx, uSl, uPart, uNoP, oSl, uCB, oLen, oList, oTuple, oInt, oAbs, oAll, oAny, oSum, onB, onI, uIs, uIs2, isT, uCall, uCallP, pick, vw, vw1, okU, okX, nolU, nol, nols, startU, kOf, kQ, kT, onL, uSeqI, uRng1, uRng2, rOk, uEnum, uRep, uTupRev, uYes, ugN, ugT2, wipeU, setU, uIfQ, uRetQ, uSetQ, uPutQ, ixC, uPar, uAsgT, uChain, uCall0, sizeLine_eq, oMax2, oSortI, oStrI, oIsB, szD, List.map_cons, List.map_nil, List.length_cons, List.length_nil, List.replicate, List.cons_append, List.nil_append, List.getElem?_cons_zero, List.getElem?_cons_succ, List.set_cons_zero, List.set_cons_succ, Option.map_some, Option.map_none, List.getD, Option.getD_some, if_true, true_and, and_true, Nat.reduceAdd, Nat.reduceSub, reduceIte, Bool.false_eq_true, Bool.not_true, Bool.not_false]
    refine f_in (fun i s' => ∃ o1 o2 o3 : Option D, s' = [some (.hold HVk), some (.d (.int lap)), some (.d (.list L)), some (.d (.int p)), some (.d (.int st)), some (.d (.int a)), jk o, some (.d (.list odP)), some (.d y), jk o1, jk o2, jk o3]) ⟨none, none, none, rfl⟩ (fun i d s' e hi hs NX hNX => ?_) (fun s' hs => ?_)
    · obtain ⟨o1, o2, o3, rfl⟩ := hs
      refine ⟨_, rfl, ?_⟩
      refine i_seq fun M1 hM1 => ?_
      simp [vw_jk, at_0, at_1, at_2, at_3, at_4, ix_40, ix_41, ix_42, ix_43, boolsD_comp, intsD_comp, sh_int, sh_bool, sh_none, sh_str, ev_int, ev_bool, ev_str, ev_none, ev_ni, ev_in, uIfS, evT, ev, uRet, uRetO, uRetN, uDrop, uSet, uSetO, uMove, uFrz, uNext, uBreak, uCont, uApp, uIns, uPut, uPutA, uAug, uRaise, uVar, uC, uOp, uUn, uTru, uTst, uNot, uAnd, uOr, uAndV, uOrV, uNotV, uIf, uNil, uCons, argU, uTup, uLst, allD, onDs, onD, onT, onBool, oI, oIC, oAdd, oEq, oIsN, isN_none, isN_int, isN_bool, isN_str, isN_list, isN_tup, truD, oIx, uSl, uPart, uNoP, oSl, uCB, oLen, oList, oTuple, oInt, oAbs, oAll, oAny, oSum, onB, onI, uIs, uIs2, isT, uCall, uCallP, pick, vw, vw1, okU, okX, nolU, nol, nols, startU, kOf, kQ, kT, onL, uSeqI, uRng1, uRng2, rOk, uEnum, uRep, uTupRev, uYes, ugN, ugT2, wipeU, setU, uIfQ, uRetQ, uSetQ, uPutQ, ixC, uPar, uAsgT, uChain, uCall0, sizeLine_eq, oMax2, oSortI, oStrI, oIsB, szD, List.map_cons, List.map_nil, List.length_cons, List.length_nil, List.replicate, List.cons_append, List.nil_append, List.getElem?_cons_zero, List.getElem?_cons_succ, List.set_cons_zero, List.set_cons_succ, Option.map_some, Option.map_none, List.getD, Option.getD_some, if_true, true_and, and_true, Nat.reduceAdd, Nat.reduceSub, reduceIte, Bool.false_eq_true, Bool.not_true, Bool.not_false]
      refine tkN 1000 rfl (by decide) (by decide) fun z hz => ?_
      simp [vw_jk, at_0, at_1, at_2, at_3, at_4, ix_40, ix_41, ix_42, ix_43, boolsD_comp, intsD_comp, sh_int, sh_bool, sh_none, sh_str, ev_int, ev_bool, ev_str, ev_none, ev_ni, ev_in, uIfS, evT, ev, uRet, uRetO, uRetN, uDrop, uSet, uSetO, uMove, uFrz, uNext, uBreak, uCont, uApp, uIns, uPut, uPutA, uAug, uRaise, uVar, uC, uOp, uUn, uTru, uTst, uNot, uAnd, uOr, uAndV, uOrV, uNotV, uIf, uNil, uCons, argU, uTup, uLst, allD, onDs, onD, onT, onBool, oI, oIC, oAdd, oEq, oIsN, isN_none, isN_int, isN_bool, isN_str, isN_list, isN_tup, truD, oIx, uSl, uPart, uNoP, oSl, uCB, oLen, oList, oTuple, oInt, oAbs, oAll, oAny, oSum, onB, onI, uIs, uIs2, isT, uCall, uCallP, pick, vw, vw1, okU, okX, nolU, nol, nols, startU, kOf, kQ, kT, onL, uSeqI, uRng1, uRng2, rOk, uEnum, uRep, uTupRev, uYes, ugN, ugT2, wipeU, setU, uIfQ, uRetQ, uSetQ, uPutQ, ixC, uPar, uAsgT, uChain, uCall0, sizeLine_eq, oMax2, oSortI, oStrI, oIsB, szD, List.map_cons, List.map_nil, List.length_cons, List.length_nil, List.replicate, List.cons_append, List.nil_append, List.getElem?_cons_zero, List.getElem?_cons_succ, List.set_cons_zero, List.set_cons_succ, Option.map_some, Option.map_none, List.getD, Option.getD_some, if_true, true_and, and_true, Nat.reduceAdd, Nat.reduceSub, reduceIte, Bool.false_eq_true, Bool.not_true, Bool.not_false]
      rw [hM1]
      refine i_cut (fun s' => ∃ (x : Int), s' = [some (.hold HVk), some (.d (.int lap)), some (.d (.list L)), some (.d (.int p)), some (.d (.int st)), some (.d (.int a)), jk o, some (.d (.list odP)), some (.d y), some (.d d), some (.d (.int x)), jk o3] ∧ x ≤ 1000000) ?_ ?_
      rotate_left
      · intro M hM
        simp [vw_jk, at_0, at_1, at_2, at_3, at_4, ix_40, ix_41, ix_42, ix_43, boolsD_comp, intsD_comp, sh_int, sh_bool, sh_none, sh_str, ev_int, ev_bool, ev_str, ev_none, ev_ni, ev_in, uIfS, evT, ev, uRet, uRetO, uRetN, uDrop, uSet, uSetO, uMove, uFrz, uNext, uBreak, uCont, uApp, uIns, uPut, uPutA, uAug, uRaise, uVar, uC, uOp, uUn, uTru, uTst, uNot, uAnd, uOr, uAndV, uOrV, uNotV, uIf, uNil, uCons, argU, uTup, uLst, allD, onDs, onD, onT, onBool, oI, oIC, oAdd, oEq, oIsN, isN_none, isN_int, isN_bool, isN_str, isN_list, isN_tup, truD, oIx, uSl, uPart, uNoP, oSl, uCB, oLen, oList, oTuple, oInt, oAbs, oAll, oAny, oSum, onB, onI, uIs, uIs2, isT, uCall, uCallP, pick, vw, vw1, okU, okX, nolU, nol, nols, startU, kOf, kQ, kT, onL, uSeqI, uRng1, uRng2, rOk, uEnum, uRep, uTupRev, uYes, ugN, ugT2, wipeU, setU, uIfQ, uRetQ, uSetQ, uPutQ, ixC, uPar, uAsgT, uChain, uCall0, sizeLine_eq, oMax2, oSortI, oStrI, oIsB, szD, List.map_cons, List.map_nil, List.length_cons, List.length_nil, List.replicate, List.cons_append, List.nil_append, List.getElem?_cons_zero, List.getElem?_cons_succ, List.set_cons_zero, List.set_cons_succ, Option.map_some, Option.map_none, List.getD, Option.getD_some, if_true, true_and, and_true, Nat.reduceAdd, Nat.reduceSub, reduceIte, Bool.false_eq_true, Bool.not_true, Bool.not_false]
        refine tkN 3 rfl (by decide) (by decide) fun q hq => ?_
        simp [vw_jk, at_0, at_1, at_2, at_3, at_4, ix_40, ix_41, ix_42, ix_43, boolsD_comp, intsD_comp, sh_int, sh_bool, sh_none, sh_str, ev_int, ev_bool, ev_str, ev_none, ev_ni, ev_in, uIfS, evT, ev, uRet, uRetO, uRetN, uDrop, uSet, uSetO, uMove, uFrz, uNext, uBreak, uCont, uApp, uIns, uPut, uPutA, uAug, uRaise, uVar, uC, uOp, uUn, uTru, uTst, uNot, uAnd, uOr, uAndV, uOrV, uNotV, uIf, uNil, uCons, argU, uTup, uLst, allD, onDs, onD, onT, onBool, oI, oIC, oAdd, oEq, oIsN, isN_none, isN_int, isN_bool, isN_str, isN_list, isN_tup, truD, oIx, uSl, uPart, uNoP, oSl, uCB, oLen, oList, oTuple, oInt, oAbs, oAll, oAny, oSum, onB, onI, uIs, uIs2, isT, uCall, uCallP, pick, vw, vw1, okU, okX, nolU, nol, nols, startU, kOf, kQ, kT, onL, uSeqI, uRng1, uRng2, rOk, uEnum, uRep, uTupRev, uYes, ugN, ugT2, wipeU, setU, uIfQ, uRetQ, uSetQ, uPutQ, ixC, uPar, uAsgT, uChain, uCall0, sizeLine_eq, oMax2, oSortI, oStrI, oIsB, szD, List.map_cons, List.map_nil, List.length_cons, List.length_nil, List.replicate, List.cons_append, List.nil_append, List.getElem?_cons_zero, List.getElem?_cons_succ, List.set_cons_zero, List.set_cons_succ, Option.map_some, Option.map_none, List.getD, Option.getD_some, if_true, true_and, and_true, Nat.reduceAdd, Nat.reduceSub, reduceIte, Bool.false_eq_true, Bool.not_true, Bool.not_false]
        split
        · refine tkN 1000000 rfl (by decide) (by decide) fun z2 hz2 => ?_
          simp [vw_jk, at_0, at_1, at_2, at_3, at_4, ix_40, ix_41, ix_42, ix_43, boolsD_comp, intsD_comp, sh_int, sh_bool, sh_none, sh_str, ev_int, ev_bool, ev_str, ev_none, ev_ni, ev_in, uIfS, evT, ev, uRet, uRetO, uRetN, uDrop, uSet, uSetO, uMove, uFrz, uNext, uBreak, uCont, uApp, uIns, uPut, uPutA, uAug, uRaise, uVar, uC, uOp, uUn, uTru, uTst, uNot, uAnd, uOr, uAndV, uOrV, uNotV, uIf, uNil, uCons, argU, uTup, uLst, allD, onDs, onD, onT, onBool, oI, oIC, oAdd, oEq, oIsN, isN_none, isN_int, isN_bool, isN_str, isN_list, isN_tup, truD, oIx, uSl, uPart, uNoP, oSl, uCB, oLen, oList, oTuple, oInt, oAbs, oAll, oAny, oSum, onB, onI, uIs, uIs2, isT, uCall, uCallP, pick, vw, vw1, okU, okX, nolU, nol, nols, startU, kOf, kQ, kT, onL, uSeqI, uRng1, uRng2, rOk, uEnum, uRep, uTupRev, uYes, ugN, ugT2, wipeU, setU, uIfQ, uRetQ, uSetQ, uPutQ, ixC, uPar, uAsgT, uChain, uCall0, sizeLine_eq, oMax2, oSortI, oStrI, oIsB, szD, List.map_cons, List.map_nil, List.length_cons, List.length_nil, List.replicate, List.cons_append, List.nil_append, List.getElem?_cons_zero, List.getElem?_cons_succ, List.set_cons_zero, List.set_cons_succ, Option.map_some, Option.map_none, List.getD, Option.getD_some, if_true, true_and, and_true, Nat.reduceAdd, Nat.reduceSub, reduceIte, Bool.false_eq_true, Bool.not_true, Bool.not_false]
          exact hM _ ⟨_, rfl, by omega⟩
        · exact hM _ ⟨_, rfl, by omega⟩
      rintro s' ⟨x, rfl, hx⟩
      refine i_seq fun M2 hM2 => ?_
      simp [vw_jk, at_0, at_1, at_2, at_3, at_4, ix_40, ix_41, ix_42, ix_43, boolsD_comp, intsD_comp, sh_int, sh_bool, sh_none, sh_str, ev_int, ev_bool, ev_str, ev_none, ev_ni, ev_in, uIfS, evT, ev, uRet, uRetO, uRetN, uDrop, uSet, uSetO, uMove, uFrz, uNext, uBreak, uCont, uApp, uIns, uPut, uPutA, uAug, uRaise, uVar, uC, uOp, uUn, uTru, uTst, uNot, uAnd, uOr, uAndV, uOrV, uNotV, uIf, uNil, uCons, argU, uTup, uLst, allD, onDs, onD, onT, onBool, oI, oIC, oAdd, oEq, oIsN, isN_none, isN_int, isN_bool, isN_str, isN_list, isN_tup, truD, oIx, uSl, uPart, uNoP, oSl, uCB, oLen, oList, oTuple, oInt, oAbs, oAll, oAny, oSum, onB, onI, uIs, uIs2, isT, uCall, uCallP, pick, vw, vw1, okU, okX, nolU, nol, nols, startU, kOf, kQ, kT, onL, uSeqI, uRng1, uRng2, rOk, uEnum, uRep, uTupRev, uYes, ugN, ugT2, wipeU, setU, uIfQ, uRetQ, uSetQ, uPutQ, ixC, uPar, uAsgT, uChain, uCall0, sizeLine_eq, oMax2, oSortI, oStrI, oIsB, szD, List.map_cons, List.map_nil, List.length_cons, List.length_nil, List.replicate, List.cons_append, List.nil_append, List.getElem?_cons_zero, List.getElem?_cons_succ, List.set_cons_zero, List.set_cons_succ, Option.map_some, Option.map_none, List.getD, Option.getD_some, if_true, true_and, and_true, Nat.reduceAdd, Nat.reduceSub, reduceIte, Bool.false_eq_true, Bool.not_true, Bool.not_false, pick]
      refine prime_call (sm_int hx) ?_
      simp [vw_jk, at_0, at_1, at_2, at_3, at_4, ix_40, ix_41, ix_42, ix_43, boolsD_comp, intsD_comp, sh_int, sh_bool, sh_none, sh_str, ev_int, ev_bool, ev_str, ev_none, ev_ni, ev_in, uIfS, evT, ev, uRet, uRetO, uRetN, uDrop, uSet, uSetO, uMove, uFrz, uNext, uBreak, uCont, uApp, uIns, uPut, uPutA, uAug, uRaise, uVar, uC, uOp, uUn, uTru, uTst, uNot, uAnd, uOr, uAndV, uOrV, uNotV, uIf, uNil, uCons, argU, uTup, uLst, allD, onDs, onD, onT, onBool, oI, oIC, oAdd, oEq, oIsN, isN_none, isN_int, isN_bool, isN_str, isN_list, isN_tup, truD, oIx, uSl, uPart, uNoP, oSl, uCB, oLen, oList, oTuple, oInt, oAbs, oAll, oAny, oSum, onB, onI, uIs, uIs2, isT, uCall, uCallP, pick, vw, vw1, okU, okX, nolU, nol, nols, startU, kOf, kQ, kT, onL, uSeqI, uRng1, uRng2, rOk, uEnum, uRep, uTupRev, uYes, ugN, ugT2, wipeU, setU, uIfQ, uRetQ, uSetQ, uPutQ, ixC, uPar, uAsgT, uChain, uCall0, sizeLine_eq, oMax2, oSortI, oStrI, oIsB, szD, List.map_cons, List.map_nil, List.length_cons, List.length_nil, List.replicate, List.cons_append, List.nil_append, List.getElem?_cons_zero, List.getElem?_cons_succ, List.set_cons_zero, List.set_cons_succ, Option.map_some, Option.map_none, List.getD, Option.getD_some, if_true, true_and, and_true, Nat.reduceAdd, Nat.reduceSub, reduceIte, Bool.false_eq_true, Bool.not_true, Bool.not_false]
      rw [hM2]
      simp [vw_jk, at_0, at_1, at_2, at_3, at_4, ix_40, ix_41, ix_42, ix_43, boolsD_comp, intsD_comp, sh_int, sh_bool, sh_none, sh_str, ev_int, ev_bool, ev_str, ev_none, ev_ni, ev_in, uIfS, evT, ev, uRet, uRetO, uRetN, uDrop, uSet, uSetO, uMove, uFrz, uNext, uBreak, uCont, uApp, uIns, uPut, uPutA, uAug, uRaise, uVar, uC, uOp, uUn, uTru, uTst, uNot, uAnd, uOr, uAndV, uOrV, uNotV, uIf, uNil, uCons, argU, uTup, uLst, allD, onDs, onD, onT, onBool, oI, oIC, oAdd, oEq, oIsN, isN_none, isN_int, isN_bool, isN_str, isN_list, isN_tup, truD, oIx, uSl, uPart, uNoP, oSl, uCB, oLen, oList, oTuple, oInt, oAbs, oAll, oAny, oSum, onB, onI, uIs, uIs2, isT, uCall, uCallP, pick, vw, vw1, okU, okX, nolU, nol, nols, startU, kOf, kQ, kT, onL, uSeqI, uRng1, uRng2, rOk, uEnum, uRep, uTupRev, uYes, ugN, ugT2, wipeU, setU, uIfQ, uRetQ, uSetQ, uPutQ, ixC, uPar, uAsgT, uChain, uCall0, sizeLine_eq, oMax2, oSortI, oStrI, oIsB, szD, List.map_cons, List.map_nil, List.length_cons, List.length_nil, List.replicate, List.cons_append, List.nil_append, List.getElem?_cons_zero, List.getElem?_cons_succ, List.set_cons_zero, List.set_cons_succ, Option.map_some, Option.map_none, List.getD, Option.getD_some, if_true, true_and, and_true, Nat.reduceAdd, Nat.reduceSub, reduceIte, Bool.false_eq_true, Bool.not_true, Bool.not_false]
      cases hpx : priD (.int x) with
      | true =>
        refine tried_call (sm_int hx) ?_
        simp [vw_jk, at_0, at_1, at_2, at_3, at_4, ix_40, ix_41, ix_42, ix_43, boolsD_comp, intsD_comp, sh_int, sh_bool, sh_none, sh_str, ev_int, ev_bool, ev_str, ev_none, ev_ni, ev_in, uIfS, evT, ev, uRet, uRetO, uRetN, uDrop, uSet, uSetO, uMove, uFrz, uNext, uBreak, uCont, uApp, uIns, uPut, uPutA, uAug, uRaise, uVar, uC, uOp, uUn, uTru, uTst, uNot, uAnd, uOr, uAndV, uOrV, uNotV, uIf, uNil, uCons, argU, uTup, uLst, allD, onDs, onD, onT, onBool, oI, oIC, oAdd, oEq, oIsN, isN_none, isN_int, isN_bool, isN_str, isN_list, isN_tup, truD, oIx, uSl, uPart, uNoP, oSl, uCB, oLen, oList, oTuple, oInt, oAbs, oAll, oAny, oSum, onB, onI, uIs, uIs2, isT, uCall, uCallP, pick, vw, vw1, okU, okX, nolU, nol, nols, startU, kOf, kQ, kT, onL, uSeqI, uRng1, uRng2, rOk, uEnum, uRep, uTupRev, uYes, ugN, ugT2, wipeU, setU, uIfQ, uRetQ, uSetQ, uPutQ, ixC, uPar, uAsgT, uChain, uCall0, sizeLine_eq, oMax2, oSortI, oStrI, oIsB, szD, List.map_cons, List.map_nil, List.length_cons, List.length_nil, List.replicate, List.cons_append, List.nil_append, List.getElem?_cons_zero, List.getElem?_cons_succ, List.set_cons_zero, List.set_cons_succ, Option.map_some, Option.map_none, List.getD, Option.getD_some, if_true, true_and, and_true, Nat.reduceAdd, Nat.reduceSub, reduceIte, Bool.false_eq_true, Bool.not_true, Bool.not_false, hpx]
        refine tried_call (sm_int hx) ?_
        simp [vw_jk, at_0, at_1, at_2, at_3, at_4, ix_40, ix_41, ix_42, ix_43, boolsD_comp, intsD_comp, sh_int, sh_bool, sh_none, sh_str, ev_int, ev_bool, ev_str, ev_none, ev_ni, ev_in, uIfS, evT, ev, uRet, uRetO, uRetN, uDrop, uSet, uSetO, uMove, uFrz, uNext, uBreak, uCont, uApp, uIns, uPut, uPutA, uAug, uRaise, uVar, uC, uOp, uUn, uTru, uTst, uNot, uAnd, uOr, uAndV, uOrV, uNotV, uIf, uNil, uCons, argU, uTup, uLst, allD, onDs, onD, onT, onBool, oI, oIC, oAdd, oEq, oIsN, isN_none, isN_int, isN_bool, isN_str, isN_list, isN_tup, truD, oIx, uSl, uPart, uNoP, oSl, uCB, oLen, oList, oTuple, oInt, oAbs, oAll, oAny, oSum, onB, onI, uIs, uIs2, isT, uCall, uCallP, pick, vw, vw1, okU, okX, nolU, nol, nols, startU, kOf, kQ, kT, onL, uSeqI, uRng1, uRng2, rOk, uEnum, uRep, uTupRev, uYes, ugN, ugT2, wipeU, setU, uIfQ, uRetQ, uSetQ, uPutQ, ixC, uPar, uAsgT, uChain, uCall0, sizeLine_eq, oMax2, oSortI, oStrI, oIsB, szD, List.map_cons, List.map_nil, List.length_cons, List.length_nil, List.replicate, List.cons_append, List.nil_append, List.getElem?_cons_zero, List.getElem?_cons_succ, List.set_cons_zero, List.set_cons_succ, Option.map_some, Option.map_none, List.getD, Option.getD_some, if_true, true_and, and_true, Nat.reduceAdd, Nat.reduceSub, reduceIte, Bool.false_eq_true, Bool.not_true, Bool.not_false, hpx]
        exact hNX _ ⟨some _, some _, some _, rfl⟩
      | false =>
        refine tried_call (sm_int hx) ?_
        simp [vw_jk, at_0, at_1, at_2, at_3, at_4, ix_40, ix_41, ix_42, ix_43, boolsD_comp, intsD_comp, sh_int, sh_bool, sh_none, sh_str, ev_int, ev_bool, ev_str, ev_none, ev_ni, ev_in, uIfS, evT, ev, uRet, uRetO, uRetN, uDrop, uSet, uSetO, uMove, uFrz, uNext, uBreak, uCont, uApp, uIns, uPut, uPutA, uAug, uRaise, uVar, uC, uOp, uUn, uTru, uTst, uNot, uAnd, uOr, uAndV, uOrV, uNotV, uIf, uNil, uCons, argU, uTup, uLst, allD, onDs, onD, onT, onBool, oI, oIC, oAdd, oEq, oIsN, isN_none, isN_int, isN_bool, isN_str, isN_list, isN_tup, truD, oIx, uSl, uPart, uNoP, oSl, uCB, oLen, oList, oTuple, oInt, oAbs, oAll, oAny, oSum, onB, onI, uIs, uIs2, isT, uCall, uCallP, pick, vw, vw1, okU, okX, nolU, nol, nols, startU, kOf, kQ, kT, onL, uSeqI, uRng1, uRng2, rOk, uEnum, uRep, uTupRev, uYes, ugN, ugT2, wipeU, setU, uIfQ, uRetQ, uSetQ, uPutQ, ixC, uPar, uAsgT, uChain, uCall0, sizeLine_eq, oMax2, oSortI, oStrI, oIsB, szD, List.map_cons, List.map_nil, List.length_cons, List.length_nil, List.replicate, List.cons_append, List.nil_append, List.getElem?_cons_zero, List.getElem?_cons_succ, List.set_cons_zero, List.set_cons_succ, Option.map_some, Option.map_none, List.getD, Option.getD_some, if_true, true_and, and_true, Nat.reduceAdd, Nat.reduceSub, reduceIte, Bool.false_eq_true, Bool.not_true, Bool.not_false, hpx]
        refine tried_call (sm_int hx) ?_
        simp [vw_jk, at_0, at_1, at_2, at_3, at_4, ix_40, ix_41, ix_42, ix_43, boolsD_comp, intsD_comp, sh_int, sh_bool, sh_none, sh_str, ev_int, ev_bool, ev_str, ev_none, ev_ni, ev_in, uIfS, evT, ev, uRet, uRetO, uRetN, uDrop, uSet, uSetO, uMove, uFrz, uNext, uBreak, uCont, uApp, uIns, uPut, uPutA, uAug, uRaise, uVar, uC, uOp, uUn, uTru, uTst, uNot, uAnd, uOr, uAndV, uOrV, uNotV, uIf, uNil, uCons, argU, uTup, uLst, allD, onDs, onD, onT, onBool, oI, oIC, oAdd, oEq, oIsN, isN_none, isN_int, isN_bool, isN_str, isN_list, isN_tup, truD, oIx, uSl, uPart, uNoP, oSl, uCB, oLen, oList, oTuple, oInt, oAbs, oAll, oAny, oSum, onB, onI, uIs, uIs2, isT, uCall, uCallP, pick, vw, vw1, okU, okX, nolU, nol, nols, startU, kOf, kQ, kT, onL, uSeqI, uRng1, uRng2, rOk, uEnum, uRep, uTupRev, uYes, ugN, ugT2, wipeU, setU, uIfQ, uRetQ, uSetQ, uPutQ, ixC, uPar, uAsgT, uChain, uCall0, sizeLine_eq, oMax2, oSortI, oStrI, oIsB, szD, List.map_cons, List.map_nil, List.length_cons, List.length_nil, List.replicate, List.cons_append, List.nil_append, List.getElem?_cons_zero, List.getElem?_cons_succ, List.set_cons_zero, List.set_cons_succ, Option.map_some, Option.map_none, List.getD, Option.getD_some, if_true, true_and, and_true, Nat.reduceAdd, Nat.reduceSub, reduceIte, Bool.false_eq_true, Bool.not_true, Bool.not_false, hpx]
        exact hNX _ ⟨some _, some _, some _, rfl⟩
    · obtain ⟨o1, o2, o3, rfl⟩ := hs
      show N11 _
      rw [hN11]
      simp [vw_jk, at_0, at_1, at_2, at_3, at_4, ix_40, ix_41, ix_42, ix_43, boolsD_comp, intsD_comp, sh_int, sh_bool, sh_none, sh_str, ev_int, ev_bool, ev_str, ev_none, ev_ni, ev_in, uIfS, evT, ev, uRet, uRetO, uRetN, uDrop, uSet, uSetO, uMove, uFrz, uNext, uBreak, uCont, uApp, uIns, uPut, uPutA, uAug, uRaise, uVar, uC, uOp, uUn, uTru, uTst, uNot, uAnd, uOr, uAndV, uOrV, uNotV, uIf, uNil, uCons, argU, uTup, uLst, allD, onDs, onD, onT, onBool, oI, oIC, oAdd, oEq, oIsN, isN_none, isN_int, isN_bool, isN_str, isN_list, isN_tup, truD, oIx, uSl, uPart, uNoP, oSl, uCB, oLen, oList, oTuple, oInt, oAbs, oAll, oAny, oSum, onB, onI, uIs, uIs2, isT, uCall, uCallP, pick, vw, vw1, okU, okX, nolU, nol, nols, startU, kOf, kQ, kT, onL, uSeqI, uRng1, uRng2, rOk, uEnum, uRep, uTupRev, uYes, ugN, ugT2, wipeU, setU, uIfQ, uRetQ, uSetQ, uPutQ, ixC, uPar, uAsgT, uChain, uCall0, sizeLine_eq, oMax2, oSortI, oStrI, oIsB, szD, List.map_cons, List.map_nil, List.length_cons, List.length_nil, List.replicate, List.cons_append, List.nil_append, List.getElem?_cons_zero, List.getElem?_cons_succ, List.set_cons_zero, List.set_cons_succ, Option.map_some, Option.map_none, List.getD, Option.getD_some, if_true, true_and, and_true, Nat.reduceAdd, Nat.reduceSub, reduceIte, Bool.false_eq_true, Bool.not_true, Bool.not_false]
      exact hp
theorem sc_law : FnScope ["_law_script", "_law_src", "_law_lap", "_law_spans", "_law_k", "_law_due", "_law_span"] ["_law_script"] (defScope s_law) := ⟨rfl, rfl, rfl, by decide +kernel, rfl, by decide +kernel, by decide +kernel⟩
theorem nats_of {B : Nat} : ∀ {l : List D}, (∀ (i : Nat) (y : D), l[i]? = some y → ∃ a : Nat, y = .int a ∧ a < B) → ∃ m : List Nat, l = natD m ∧ ∀ a ∈ m, a < B
  | [], _ => ⟨[], rfl, fun _ h => by cases h⟩
  | x :: l, h => by
    obtain ⟨a, rfl, ha⟩ := h 0 x rfl
    obtain ⟨m, rfl, hm⟩ := nats_of (l := l) fun i y e => h (i + 1) y (by simpa using e)
    exact ⟨a :: m, rfl, fun b hb => by
      cases hb with
      | head => exact ha
      | tail _ hb => exact hm b hb⟩
theorem ok_law (T : Tk P K mg) {fd__law_draw : FuncData} (h__law_draw : Has P w K mg base 1 "_law_draw" s__law_draw ["_law_src", "_law_width"] fn__law_draw fd__law_draw) {fd__law_units : FuncData} (h__law_units : Has P w K mg base 5 "_law_units" s__law_units ["_law_src"] fn__law_units fd__law_units) {fd__law_powers : FuncData} (h__law_powers : Has P w K mg base 8 "_law_powers" s__law_powers ["_law_src", "_law_lap"] (fn__law_powers K) fd__law_powers) {fd__law_great : FuncData} (h__law_great : Has P w K mg base 2 "_law_great" s__law_great ["_law_src", "_law_figures"] fn__law_great fd__law_great) {fd__law_is : FuncData} (h__law_is : Has P w K mg base 2 "_law_is" s__law_is ["_law_got", "_law_due"] fn__law_is fd__law_is) {fd__law_pairs : FuncData} (h__law_pairs : Has P w K mg base 8 "_law_pairs" s__law_pairs ["_law_src", "_law_lap"] (fn__law_pairs K) fd__law_pairs) {fd__law_small : FuncData} (h__law_small : Has P w K mg base 8 "_law_small" s__law_small ["_law_src", "_law_lap"] (fn__law_small K) fd__law_small) {fd_product_of : FuncData} (h_product_of : Has P w K mg base 1 "product_of" s_product_of ["ranges"] fn_product_of fd_product_of) : ∃ fd, Fun K "law" "law" s_law (He.ga K "law") fd ∧ (∀ (s : Shared) (v : Value), BindsTo s fd ⟨[v], []⟩ [("_law_script", v)]) ∧ FnOk P w K mg base (L2.CX P w) 9 (He.ga K "law") fd ["_law_script"] (spLaw K) := by
  obtain ⟨fd, F⟩ := T.f_law
  refine ⟨fd, F, ?_, fnLaw (i := 1) F sc_law rfl (by decide) (by rfl) fun cdv A outer s H E hr => ⟨_, _, _, _, (ds_setO false 1 (de_lst (da_cons de_int (da_cons de_int (da_cons de_int (da_cons (dv 0) da_nil))))) sc_law.nd),
    (dss_cons (ds_set false 2 (de_own h__law_draw ⟨rfl, rfl, rfl, rfl, rfl⟩ (hr.mono (by decide)) rfl airD (da_cons (dv 1) (da_cons de_int da_nil))) sc_law.nd)
    (dss_cons (ds_setLc (i := 3) false rfl sc_law.nd rfl rfl rfl (own := [("_law_k", 4)]) (di_rng1 (de_own h__law_draw ⟨rfl, rfl, rfl, rfl, rfl⟩ (hr.mono (by decide)) rfl airD (da_cons (dv 1) (da_cons de_int da_nil))) rfl T.n_range) (blk_of (by kernel_rfl)) (fun _ _ _ _ _ => (dg_name 4 sc_law.nd)) (fun _ _ _ _ _ => dts_nil) (fun _ _ _ _ _ => (de_op (do_addk (KK := K)) de_int (de_own h__law_great ⟨rfl, rfl, rfl, rfl, rfl⟩ (hr.mono (by decide)) (by rfl) air0 (da_cons (dv 1) (da_cons (de_op do_mul de_int (de_own h__law_draw ⟨rfl, rfl, rfl, rfl, rfl⟩ (hr.mono (by decide)) (by rfl) air0 (da_cons (dv 1) (da_cons de_int da_nil)))) da_nil))))))
    (dss_cons (ds_set false 5 de_int sc_law.nd)
    (dss_cons (ds_for poD rfl (di_seqk (KK := K) (dv 3)) (dg_name 6 sc_law.nd) (dss_one (ds_set false 5 (de_op do_mul (dv 5) (dv 6)) sc_law.nd)))
    (dss_cons (ds_if false (DW.dt (dw_or (dt_not (dt_truk (KK := K) (de_own h__law_is ⟨rfl, rfl, rfl, rfl, rfl⟩ (hr.mono (by decide)) rfl airD (da_cons (de_own h_product_of ⟨rfl, rfl, rfl, rfl, rfl⟩ (hr.mono (by decide)) rfl airD (da_cons (de_callTy (dc_tuplek (KK := K)) (by rfl) T.n_tuple bt_tuple (da_cons (dv 3) da_nil)) da_nil)) (da_cons (dv 5) da_nil))))) (dw_or1 (dt_not (dt_truk (KK := K) (de_own h__law_is ⟨rfl, rfl, rfl, rfl, rfl⟩ (hr.mono (by decide)) rfl airD (da_cons (de_ownK0 h_product_of ⟨rfl, rfl, rfl, rfl, rfl⟩ (hr.mono (by decide)) rfl (kb_product_of_0 h_product_of.fu) airD (dk_cons (de_callTy (dc_tuplek (KK := K)) (by rfl) T.n_tuple bt_tuple (da_cons (dv 3) da_nil)) dk_nil)) (da_cons (dv 5) da_nil)))))))) (dss_one (ds_ret false de_bl)) dss_nil)
    (dss_cons (ds_if false (DW.dt (dw_or (dt_not (dt_truk (KK := K) (de_own h__law_pairs ⟨rfl, rfl, rfl, rfl, rfl⟩ (hr.mono (by decide)) rfl airD (da_cons (dv 1) (da_cons (dv 2) da_nil))))) (dw_or1 (dt_not (dt_truk (KK := K) (de_own h__law_small ⟨rfl, rfl, rfl, rfl, rfl⟩ (hr.mono (by decide)) rfl airD (da_cons (dv 1) (da_cons (dv 2) da_nil)))))))) (dss_one (ds_ret false de_bl)) dss_nil)
    (dss_one (ds_ret false (de_andk (KK := K) (de_own h__law_units ⟨rfl, rfl, rfl, rfl, rfl⟩ (hr.mono (by decide)) rfl airD (da_cons (dv 1) da_nil)) (de_one (de_own h__law_powers ⟨rfl, rfl, rfl, rfl, rfl⟩ (hr.mono (by decide)) rfl airD (da_cons (dv 1) (da_cons (dv 2) da_nil))))))))))))), ?_⟩⟩
  · obtain ⟨oc, od, kV, doc, pm, an, cdv, ct, osl, rfl, lk, hcd⟩ := F.ex
    exact fun s v => .of_eq (by first | rfl | with_unfolding_all rfl)
  intro ns hns
  simp [vw_jk, at_0, at_1, at_2, at_3, at_4, ix_40, ix_41, ix_42, ix_43, boolsD_comp, intsD_comp, sh_int, sh_bool, sh_none, sh_str, ev_int, ev_bool, ev_str, ev_none, ev_ni, ev_in, uIfS, evT, ev, uRet, uRetO, uRetN, uDrop, uSet, uSetO, uMove, uFrz, uNext, uBreak, uCont, uApp, uIns, uPut, uPutA, uAug, uRaise, uVar, uC, uOp, uUn, uTru, uTst, uNot, uAnd, uOr, uAndV, uOrV, uNotV, uIf, uNil, uCons, argU, uTup, uLst, allD, onDs, onD, onT, onBool, oI, oIC, oAdd, oEq, oIsN, isN_none, isN_int, isN_bool, isN_str, isN_list, isN_tup, truD, oIx, uSl, uPart, uNoP, oSl, uCB, oLen, oList, oTuple, oInt, oAbs, oAll, oAny, oSum, onB, onI, uIs, uIs2, isT, uCall, uCallP, pick, vw, vw1, okU, okX, nolU, nol, nols, startU, kOf, kQ, kT, onL, uSeqI, uRng1, uRng2, rOk, uEnum, uRep, uTupRev, uYes, ugN, ugT2, wipeU, setU, uIfQ, uRetQ, uSetQ, uPutQ, ixC, uPar, uAsgT, uChain, uCall0, sizeLine_eq, oMax2, oSortI, oStrI, oIsB, szD, List.map_cons, List.map_nil, List.length_cons, List.length_nil, List.replicate, List.cons_append, List.nil_append, List.getElem?_cons_zero, List.getElem?_cons_succ, List.set_cons_zero, List.set_cons_succ, Option.map_some, Option.map_none, List.getD, Option.getD_some, if_true, true_and, and_true, Nat.reduceAdd, Nat.reduceSub, reduceIte, Bool.false_eq_true, Bool.not_true, Bool.not_false]
  refine ⟨_, HVk, rfl, ⟨0, 0, 43, ns, rfl, by decide, by decide, by decide⟩, fun i l z => ?_, ?_⟩
  · have := List.mem_of_getElem? z
    simp at this
  have eT : ∀ (r : U) (s' : Sl), r = .d (.bool true) → kT.rt r s' := fun r s' h => h
  generalize hkk : kT = kk at eT
  refine i_seq fun N hN => ?_
  simp [vw_jk, at_0, at_1, at_2, at_3, at_4, ix_40, ix_41, ix_42, ix_43, boolsD_comp, intsD_comp, sh_int, sh_bool, sh_none, sh_str, ev_int, ev_bool, ev_str, ev_none, ev_ni, ev_in, uIfS, evT, ev, uRet, uRetO, uRetN, uDrop, uSet, uSetO, uMove, uFrz, uNext, uBreak, uCont, uApp, uIns, uPut, uPutA, uAug, uRaise, uVar, uC, uOp, uUn, uTru, uTst, uNot, uAnd, uOr, uAndV, uOrV, uNotV, uIf, uNil, uCons, argU, uTup, uLst, allD, onDs, onD, onT, onBool, oI, oIC, oAdd, oEq, oIsN, isN_none, isN_int, isN_bool, isN_str, isN_list, isN_tup, truD, oIx, uSl, uPart, uNoP, oSl, uCB, oLen, oList, oTuple, oInt, oAbs, oAll, oAny, oSum, onB, onI, uIs, uIs2, isT, uCall, uCallP, pick, vw, vw1, okU, okX, nolU, nol, nols, startU, kOf, kQ, kT, onL, uSeqI, uRng1, uRng2, rOk, uEnum, uRep, uTupRev, uYes, ugN, ugT2, wipeU, setU, uIfQ, uRetQ, uSetQ, uPutQ, ixC, uPar, uAsgT, uChain, uCall0, sizeLine_eq, oMax2, oSortI, oStrI, oIsB, szD, List.map_cons, List.map_nil, List.length_cons, List.length_nil, List.replicate, List.cons_append, List.nil_append, List.getElem?_cons_zero, List.getElem?_cons_succ, List.set_cons_zero, List.set_cons_succ, Option.map_some, Option.map_none, List.getD, Option.getD_some, if_true, true_and, and_true, Nat.reduceAdd, Nat.reduceSub, reduceIte, Bool.false_eq_true, Bool.not_true, Bool.not_false]
  refine tkN 2 rfl (by decide) (by decide) fun lap hlap => ?_
  simp [vw_jk, at_0, at_1, at_2, at_3, at_4, ix_40, ix_41, ix_42, ix_43, boolsD_comp, intsD_comp, sh_int, sh_bool, sh_none, sh_str, ev_int, ev_bool, ev_str, ev_none, ev_ni, ev_in, uIfS, evT, ev, uRet, uRetO, uRetN, uDrop, uSet, uSetO, uMove, uFrz, uNext, uBreak, uCont, uApp, uIns, uPut, uPutA, uAug, uRaise, uVar, uC, uOp, uUn, uTru, uTst, uNot, uAnd, uOr, uAndV, uOrV, uNotV, uIf, uNil, uCons, argU, uTup, uLst, allD, onDs, onD, onT, onBool, oI, oIC, oAdd, oEq, oIsN, isN_none, isN_int, isN_bool, isN_str, isN_list, isN_tup, truD, oIx, uSl, uPart, uNoP, oSl, uCB, oLen, oList, oTuple, oInt, oAbs, oAll, oAny, oSum, onB, onI, uIs, uIs2, isT, uCall, uCallP, pick, vw, vw1, okU, okX, nolU, nol, nols, startU, kOf, kQ, kT, onL, uSeqI, uRng1, uRng2, rOk, uEnum, uRep, uTupRev, uYes, ugN, ugT2, wipeU, setU, uIfQ, uRetQ, uSetQ, uPutQ, ixC, uPar, uAsgT, uChain, uCall0, sizeLine_eq, oMax2, oSortI, oStrI, oIsB, szD, List.map_cons, List.map_nil, List.length_cons, List.length_nil, List.replicate, List.cons_append, List.nil_append, List.getElem?_cons_zero, List.getElem?_cons_succ, List.set_cons_zero, List.set_cons_succ, Option.map_some, Option.map_none, List.getD, Option.getD_some, if_true, true_and, and_true, Nat.reduceAdd, Nat.reduceSub, reduceIte, Bool.false_eq_true, Bool.not_true, Bool.not_false]
  rw [hN]
  refine i_seq fun N2 hN2 => ?_
  simp [vw_jk, at_0, at_1, at_2, at_3, at_4, ix_40, ix_41, ix_42, ix_43, boolsD_comp, intsD_comp, sh_int, sh_bool, sh_none, sh_str, ev_int, ev_bool, ev_str, ev_none, ev_ni, ev_in, uIfS, evT, ev, uRet, uRetO, uRetN, uDrop, uSet, uSetO, uMove, uFrz, uNext, uBreak, uCont, uApp, uIns, uPut, uPutA, uAug, uRaise, uVar, uC, uOp, uUn, uTru, uTst, uNot, uAnd, uOr, uAndV, uOrV, uNotV, uIf, uNil, uCons, argU, uTup, uLst, allD, onDs, onD, onT, onBool, oI, oIC, oAdd, oEq, oIsN, isN_none, isN_int, isN_bool, isN_str, isN_list, isN_tup, truD, oIx, uSl, uPart, uNoP, oSl, uCB, oLen, oList, oTuple, oInt, oAbs, oAll, oAny, oSum, onB, onI, uIs, uIs2, isT, uCall, uCallP, pick, vw, vw1, okU, okX, nolU, nol, nols, startU, kOf, kQ, kT, onL, uSeqI, uRng1, uRng2, rOk, uEnum, uRep, uTupRev, uYes, ugN, ugT2, wipeU, setU, uIfQ, uRetQ, uSetQ, uPutQ, ixC, uPar, uAsgT, uChain, uCall0, sizeLine_eq, oMax2, oSortI, oStrI, oIsB, szD, List.map_cons, List.map_nil, List.length_cons, List.length_nil, List.replicate, List.cons_append, List.nil_append, List.getElem?_cons_zero, List.getElem?_cons_succ, List.set_cons_zero, List.set_cons_succ, Option.map_some, Option.map_none, List.getD, Option.getD_some, if_true, true_and, and_true, Nat.reduceAdd, Nat.reduceSub, reduceIte, Bool.false_eq_true, Bool.not_true, Bool.not_false]
  refine i_lc ?_
  simp [vw_jk, at_0, at_1, at_2, at_3, at_4, ix_40, ix_41, ix_42, ix_43, boolsD_comp, intsD_comp, sh_int, sh_bool, sh_none, sh_str, ev_int, ev_bool, ev_str, ev_none, ev_ni, ev_in, uIfS, evT, ev, uRet, uRetO, uRetN, uDrop, uSet, uSetO, uMove, uFrz, uNext, uBreak, uCont, uApp, uIns, uPut, uPutA, uAug, uRaise, uVar, uC, uOp, uUn, uTru, uTst, uNot, uAnd, uOr, uAndV, uOrV, uNotV, uIf, uNil, uCons, argU, uTup, uLst, allD, onDs, onD, onT, onBool, oI, oIC, oAdd, oEq, oIsN, isN_none, isN_int, isN_bool, isN_str, isN_list, isN_tup, truD, oIx, uSl, uPart, uNoP, oSl, uCB, oLen, oList, oTuple, oInt, oAbs, oAll, oAny, oSum, onB, onI, uIs, uIs2, isT, uCall, uCallP, pick, vw, vw1, okU, okX, nolU, nol, nols, startU, kOf, kQ, kT, onL, uSeqI, uRng1, uRng2, rOk, uEnum, uRep, uTupRev, uYes, ugN, ugT2, wipeU, setU, uIfQ, uRetQ, uSetQ, uPutQ, ixC, uPar, uAsgT, uChain, uCall0, sizeLine_eq, oMax2, oSortI, oStrI, oIsB, szD, List.map_cons, List.map_nil, List.length_cons, List.length_nil, List.replicate, List.cons_append, List.nil_append, List.getElem?_cons_zero, List.getElem?_cons_succ, List.set_cons_zero, List.set_cons_succ, Option.map_some, Option.map_none, List.getD, Option.getD_some, if_true, true_and, and_true, Nat.reduceAdd, Nat.reduceSub, reduceIte, Bool.false_eq_true, Bool.not_true, Bool.not_false]
  refine tkN 7 rfl (by decide) (by decide) fun m hm => ?_
  simp [vw_jk, at_0, at_1, at_2, at_3, at_4, ix_40, ix_41, ix_42, ix_43, boolsD_comp, intsD_comp, sh_int, sh_bool, sh_none, sh_str, ev_int, ev_bool, ev_str, ev_none, ev_ni, ev_in, uIfS, evT, ev, uRet, uRetO, uRetN, uDrop, uSet, uSetO, uMove, uFrz, uNext, uBreak, uCont, uApp, uIns, uPut, uPutA, uAug, uRaise, uVar, uC, uOp, uUn, uTru, uTst, uNot, uAnd, uOr, uAndV, uOrV, uNotV, uIf, uNil, uCons, argU, uTup, uLst, allD, onDs, onD, onT, onBool, oI, oIC, oAdd, oEq, oIsN, isN_none, isN_int, isN_bool, isN_str, isN_list, isN_tup, truD, oIx, uSl, uPart, uNoP, oSl, uCB, oLen, oList, oTuple, oInt, oAbs, oAll, oAny, oSum, onB, onI, uIs, uIs2, isT, uCall, uCallP, pick, vw, vw1, okU, okX, nolU, nol, nols, startU, kOf, kQ, kT, onL, uSeqI, uRng1, uRng2, rOk, uEnum, uRep, uTupRev, uYes, ugN, ugT2, wipeU, setU, uIfQ, uRetQ, uSetQ, uPutQ, ixC, uPar, uAsgT, uChain, uCall0, sizeLine_eq, oMax2, oSortI, oStrI, oIsB, szD, List.map_cons, List.map_nil, List.length_cons, List.length_nil, List.replicate, List.cons_append, List.nil_append, List.getElem?_cons_zero, List.getElem?_cons_succ, List.set_cons_zero, List.set_cons_succ, Option.map_some, Option.map_none, List.getD, Option.getD_some, if_true, true_and, and_true, Nat.reduceAdd, Nat.reduceSub, reduceIte, Bool.false_eq_true, Bool.not_true, Bool.not_false]
  refine ⟨by omega, ?_⟩
  refine lc_rel (fun _ _ y => ∃ a : Nat, y = .int a ∧ a < 2 ^ 70) (by rw [rngD_len]; exact lt_line (by omega)) (fun i d e => ⟨_, rfl, by simp, fun acc J hJ => ?_⟩) (fun acc ha hr => ?_)
  · simp [vw_jk, at_0, at_1, at_2, at_3, at_4, ix_40, ix_41, ix_42, ix_43, boolsD_comp, intsD_comp, sh_int, sh_bool, sh_none, sh_str, ev_int, ev_bool, ev_str, ev_none, ev_ni, ev_in, uIfS, evT, ev, uRet, uRetO, uRetN, uDrop, uSet, uSetO, uMove, uFrz, uNext, uBreak, uCont, uApp, uIns, uPut, uPutA, uAug, uRaise, uVar, uC, uOp, uUn, uTru, uTst, uNot, uAnd, uOr, uAndV, uOrV, uNotV, uIf, uNil, uCons, argU, uTup, uLst, allD, onDs, onD, onT, onBool, oI, oIC, oAdd, oEq, oIsN, isN_none, isN_int, isN_bool, isN_str, isN_list, isN_tup, truD, oIx, uSl, uPart, uNoP, oSl, uCB, oLen, oList, oTuple, oInt, oAbs, oAll, oAny, oSum, onB, onI, uIs, uIs2, isT, uCall, uCallP, pick, vw, vw1, okU, okX, nolU, nol, nols, startU, kOf, kQ, kT, onL, uSeqI, uRng1, uRng2, rOk, uEnum, uRep, uTupRev, uYes, ugN, ugT2, wipeU, setU, uIfQ, uRetQ, uSetQ, uPutQ, ixC, uPar, uAsgT, uChain, uCall0, sizeLine_eq, oMax2, oSortI, oStrI, oIsB, szD, List.map_cons, List.map_nil, List.length_cons, List.length_nil, List.replicate, List.cons_append, List.nil_append, List.getElem?_cons_zero, List.getElem?_cons_succ, List.set_cons_zero, List.set_cons_succ, Option.map_some, Option.map_none, List.getD, Option.getD_some, if_true, true_and, and_true, Nat.reduceAdd, Nat.reduceSub, reduceIte, Bool.false_eq_true, Bool.not_true, Bool.not_false]
    refine tkN 5 rfl (by decide) (by decide) fun q hq => ?_
    simp [vw_jk, at_0, at_1, at_2, at_3, at_4, ix_40, ix_41, ix_42, ix_43, boolsD_comp, intsD_comp, sh_int, sh_bool, sh_none, sh_str, ev_int, ev_bool, ev_str, ev_none, ev_ni, ev_in, uIfS, evT, ev, uRet, uRetO, uRetN, uDrop, uSet, uSetO, uMove, uFrz, uNext, uBreak, uCont, uApp, uIns, uPut, uPutA, uAug, uRaise, uVar, uC, uOp, uUn, uTru, uTst, uNot, uAnd, uOr, uAndV, uOrV, uNotV, uIf, uNil, uCons, argU, uTup, uLst, allD, onDs, onD, onT, onBool, oI, oIC, oAdd, oEq, oIsN, isN_none, isN_int, isN_bool, isN_str, isN_list, isN_tup, truD, oIx, uSl, uPart, uNoP, oSl, uCB, oLen, oList, oTuple, oInt, oAbs, oAll, oAny, oSum, onB, onI, uIs, uIs2, isT, uCall, uCallP, pick, vw, vw1, okU, okX, nolU, nol, nols, startU, kOf, kQ, kT, onL, uSeqI, uRng1, uRng2, rOk, uEnum, uRep, uTupRev, uYes, ugN, ugT2, wipeU, setU, uIfQ, uRetQ, uSetQ, uPutQ, ixC, uPar, uAsgT, uChain, uCall0, sizeLine_eq, oMax2, oSortI, oStrI, oIsB, szD, List.map_cons, List.map_nil, List.length_cons, List.length_nil, List.replicate, List.cons_append, List.nil_append, List.getElem?_cons_zero, List.getElem?_cons_succ, List.set_cons_zero, List.set_cons_succ, Option.map_some, Option.map_none, List.getD, Option.getD_some, if_true, true_and, and_true, Nat.reduceAdd, Nat.reduceSub, reduceIte, Bool.false_eq_true, Bool.not_true, Bool.not_false]
    refine ⟨mulL (by decide), ?_⟩
    refine gt (5 * q) (by simp) (by omega) fun r hr => ?_
    simp [vw_jk, at_0, at_1, at_2, at_3, at_4, ix_40, ix_41, ix_42, ix_43, boolsD_comp, intsD_comp, sh_int, sh_bool, sh_none, sh_str, ev_int, ev_bool, ev_str, ev_none, ev_ni, ev_in, uIfS, evT, ev, uRet, uRetO, uRetN, uDrop, uSet, uSetO, uMove, uFrz, uNext, uBreak, uCont, uApp, uIns, uPut, uPutA, uAug, uRaise, uVar, uC, uOp, uUn, uTru, uTst, uNot, uAnd, uOr, uAndV, uOrV, uNotV, uIf, uNil, uCons, argU, uTup, uLst, allD, onDs, onD, onT, onBool, oI, oIC, oAdd, oEq, oIsN, isN_none, isN_int, isN_bool, isN_str, isN_list, isN_tup, truD, oIx, uSl, uPart, uNoP, oSl, uCB, oLen, oList, oTuple, oInt, oAbs, oAll, oAny, oSum, onB, onI, uIs, uIs2, isT, uCall, uCallP, pick, vw, vw1, okU, okX, nolU, nol, nols, startU, kOf, kQ, kT, onL, uSeqI, uRng1, uRng2, rOk, uEnum, uRep, uTupRev, uYes, ugN, ugT2, wipeU, setU, uIfQ, uRetQ, uSetQ, uPutQ, ixC, uPar, uAsgT, uChain, uCall0, sizeLine_eq, oMax2, oSortI, oStrI, oIsB, szD, List.map_cons, List.map_nil, List.length_cons, List.length_nil, List.replicate, List.cons_append, List.nil_append, List.getElem?_cons_zero, List.getElem?_cons_succ, List.set_cons_zero, List.set_cons_succ, Option.map_some, Option.map_none, List.getD, Option.getD_some, if_true, true_and, and_true, Nat.reduceAdd, Nat.reduceSub, reduceIte, Bool.false_eq_true, Bool.not_true, Bool.not_false]
    have h5 : 5 * q / 5 = q := by omega
    rw [h5] at hr
    have : r < 100000 ^ 4 := Nat.lt_of_lt_of_le hr (Nat.pow_le_pow_right (by decide) (by omega))
    exact hJ _ ⟨2 + r, by simp, by omega⟩
  obtain ⟨l, rfl, hl⟩ := nats_of fun i y e => by
    have hi : i < (rngD 0 m).length := by rw [← ha]; exact (List.getElem?_eq_some_iff.mp e).1
    exact hr i _ y (List.getElem?_eq_getElem hi) e
  rw [rngD_len, natD_len] at ha
  simp only [vw_jk, at_0, at_1, at_2, at_3, at_4, ix_40, ix_41, ix_42, ix_43, boolsD_comp, intsD_comp, sh_int, sh_bool, sh_none, sh_str, ev_int, ev_bool, ev_str, ev_none, ev_ni, ev_in, uIfS, evT, ev, uRet, uRetO, uRetN, uDrop, uSet, uSetO, uMove, uFrz, uNext, uBreak, uCont, uApp, uIns, uPut, uPutA, uAug, uRaise, uVar, uC, uOp, uUn, uTru, uTst, uNot, uAnd, uOr, uAndV, uOrV, uNotV, uIf, uNil, uCons, argU, uTup, uLst, allD, onDs, onD, onT, onBool, oI, oIC, oAdd, oEq, oIsN, isN_none, isN_int, isN_bool, isN_str, isN_list, isN_tup, truD, oIx, uSl, uPart, uNoP, oSl, uCB, oLen, oList, oTuple, oInt, oAbs, oAll, oAny, oSum, onB, onI, uIs, uIs2, isT, uCall, uCallP, pick, vw, vw1, okU, okX, nolU, nol, nols, startU, kOf, kQ, kT, onL, uSeqI, uRng1, uRng2, rOk, uEnum, uRep, uTupRev, uYes, ugN, ugT2, wipeU, setU, uIfQ, uRetQ, uSetQ, uPutQ, ixC, uPar, uAsgT, uChain, uCall0, sizeLine_eq, oMax2, oSortI, oStrI, oIsB, szD, List.map_cons, List.map_nil, List.length_cons, List.length_nil, List.replicate, List.cons_append, List.nil_append, List.getElem?_cons_zero, List.getElem?_cons_succ, List.set_cons_zero, List.set_cons_succ, Option.map_some, Option.map_none, List.getD, Option.getD_some, if_true, true_and, and_true, Nat.reduceAdd, Nat.reduceSub, reduceIte, Bool.false_eq_true, Bool.not_true, Bool.not_false]
  rw [hN2]
  refine i_seq fun N3 hN3 => ?_
  simp [vw_jk, at_0, at_1, at_2, at_3, at_4, ix_40, ix_41, ix_42, ix_43, boolsD_comp, intsD_comp, sh_int, sh_bool, sh_none, sh_str, ev_int, ev_bool, ev_str, ev_none, ev_ni, ev_in, uIfS, evT, ev, uRet, uRetO, uRetN, uDrop, uSet, uSetO, uMove, uFrz, uNext, uBreak, uCont, uApp, uIns, uPut, uPutA, uAug, uRaise, uVar, uC, uOp, uUn, uTru, uTst, uNot, uAnd, uOr, uAndV, uOrV, uNotV, uIf, uNil, uCons, argU, uTup, uLst, allD, onDs, onD, onT, onBool, oI, oIC, oAdd, oEq, oIsN, isN_none, isN_int, isN_bool, isN_str, isN_list, isN_tup, truD, oIx, uSl, uPart, uNoP, oSl, uCB, oLen, oList, oTuple, oInt, oAbs, oAll, oAny, oSum, onB, onI, uIs, uIs2, isT, uCall, uCallP, pick, vw, vw1, okU, okX, nolU, nol, nols, startU, kOf, kQ, kT, onL, uSeqI, uRng1, uRng2, rOk, uEnum, uRep, uTupRev, uYes, ugN, ugT2, wipeU, setU, uIfQ, uRetQ, uSetQ, uPutQ, ixC, uPar, uAsgT, uChain, uCall0, sizeLine_eq, oMax2, oSortI, oStrI, oIsB, szD, List.map_cons, List.map_nil, List.length_cons, List.length_nil, List.replicate, List.cons_append, List.nil_append, List.getElem?_cons_zero, List.getElem?_cons_succ, List.set_cons_zero, List.set_cons_succ, Option.map_some, Option.map_none, List.getD, Option.getD_some, if_true, true_and, and_true, Nat.reduceAdd, Nat.reduceSub, reduceIte, Bool.false_eq_true, Bool.not_true, Bool.not_false]
  rw [hN3]
  refine i_seq fun N4 hN4 => ?_
  refine i_for2 ?_
  simp [vw_jk, at_0, at_1, at_2, at_3, at_4, ix_40, ix_41, ix_42, ix_43, boolsD_comp, intsD_comp, sh_int, sh_bool, sh_none, sh_str, ev_int, ev_bool, ev_str, ev_none, ev_ni, ev_in, uIfS, evT, ev, uRet, uRetO, uRetN, uDrop, uSet, uSetO, uMove, uFrz, uNext, uBreak, uCont, uApp, uIns, uPut, uPutA, uAug, uRaise, uVar, uC, uOp, uUn, uTru, uTst, uNot, uAnd, uOr, uAndV, uOrV, uNotV, uIf, uNil, uCons, argU, uTup, uLst, allD, onDs, onD, onT, onBool, oI, oIC, oAdd, oEq, oIsN, isN_none, isN_int, isN_bool, isN_str, isN_list, isN_tup, truD, oIx, uSl, uPart, uNoP, oSl, uCB, oLen, oList, oTuple, oInt, oAbs, oAll, oAny, oSum, onB, onI, uIs, uIs2, isT, uCall, uCallP, pick, vw, vw1, okU, okX, nolU, nol, nols, startU, kOf, kQ, kT, onL, uSeqI, uRng1, uRng2, rOk, uEnum, uRep, uTupRev, uYes, ugN, ugT2, wipeU, setU, uIfQ, uRetQ, uSetQ, uPutQ, ixC, uPar, uAsgT, uChain, uCall0, sizeLine_eq, oMax2, oSortI, oStrI, oIsB, szD, List.map_cons, List.map_nil, List.length_cons, List.length_nil, List.replicate, List.cons_append, List.nil_append, List.getElem?_cons_zero, List.getElem?_cons_succ, List.set_cons_zero, List.set_cons_succ, Option.map_some, Option.map_none, List.getD, Option.getD_some, if_true, true_and, and_true, Nat.reduceAdd, Nat.reduceSub, reduceIte, Bool.false_eq_true, Bool.not_true, Bool.not_false]
  refine f_in (fun i s' => ∃ o : Option D, s' = [some (.d (scriptD ns)), some (.hold HVk), some (.d (.int lap)), some (.d (.list (natD l))), none, some (.d (.int (prodN (l.take i) : Nat))), jk o]) ⟨none, rfl⟩ (fun i d s' e hi hs NX hNX => ?_) (fun s' hs => ?_)
  · obtain ⟨o, rfl⟩ := hs
    obtain ⟨a, rfl, ha⟩ := natD_get e
    simp [vw_jk, at_0, at_1, at_2, at_3, at_4, ix_40, ix_41, ix_42, ix_43, boolsD_comp, intsD_comp, sh_int, sh_bool, sh_none, sh_str, ev_int, ev_bool, ev_str, ev_none, ev_ni, ev_in, uIfS, evT, ev, uRet, uRetO, uRetN, uDrop, uSet, uSetO, uMove, uFrz, uNext, uBreak, uCont, uApp, uIns, uPut, uPutA, uAug, uRaise, uVar, uC, uOp, uUn, uTru, uTst, uNot, uAnd, uOr, uAndV, uOrV, uNotV, uIf, uNil, uCons, argU, uTup, uLst, allD, onDs, onD, onT, onBool, oI, oIC, oAdd, oEq, oIsN, isN_none, isN_int, isN_bool, isN_str, isN_list, isN_tup, truD, oIx, uSl, uPart, uNoP, oSl, uCB, oLen, oList, oTuple, oInt, oAbs, oAll, oAny, oSum, onB, onI, uIs, uIs2, isT, uCall, uCallP, pick, vw, vw1, okU, okX, nolU, nol, nols, startU, kOf, kQ, kT, onL, uSeqI, uRng1, uRng2, rOk, uEnum, uRep, uTupRev, uYes, ugN, ugT2, wipeU, setU, uIfQ, uRetQ, uSetQ, uPutQ, ixC, uPar, uAsgT, uChain, uCall0, sizeLine_eq, oMax2, oSortI, oStrI, oIsB, szD, List.map_cons, List.map_nil, List.length_cons, List.length_nil, List.replicate, List.cons_append, List.nil_append, List.getElem?_cons_zero, List.getElem?_cons_succ, List.set_cons_zero, List.set_cons_succ, Option.map_some, Option.map_none, List.getD, Option.getD_some, if_true, true_and, and_true, Nat.reduceAdd, Nat.reduceSub, reduceIte, Bool.false_eq_true, Bool.not_true, Bool.not_false]
    have hi := (List.getElem?_eq_some_iff.mp ha).1
    have ha2 := hl a (List.mem_of_getElem? ha)
    refine ⟨mulN (a := 70 * (l.take i).length + 1) (b := 70) (by simpa using prodN_lt fun x hx => hl x (List.mem_of_mem_take hx)) (by simpa using ha2) (by simp; omega) (by decide), ?_⟩
    exact hNX _ ⟨some (.int a), by rw [prodN_take ha]; simp [jk]⟩
  · obtain ⟨o, rfl⟩ := hs
    show N4 _
    rw [hN4, natD_len, List.take_length]
    refine i_seq fun N5 hN5 => ?_
    simp [vw_jk, at_0, at_1, at_2, at_3, at_4, ix_40, ix_41, ix_42, ix_43, boolsD_comp, intsD_comp, sh_int, sh_bool, sh_none, sh_str, ev_int, ev_bool, ev_str, ev_none, ev_ni, ev_in, uIfS, evT, ev, uRet, uRetO, uRetN, uDrop, uSet, uSetO, uMove, uFrz, uNext, uBreak, uCont, uApp, uIns, uPut, uPutA, uAug, uRaise, uVar, uC, uOp, uUn, uTru, uTst, uNot, uAnd, uOr, uAndV, uOrV, uNotV, uIf, uNil, uCons, argU, uTup, uLst, allD, onDs, onD, onT, onBool, oI, oIC, oAdd, oEq, oIsN, isN_none, isN_int, isN_bool, isN_str, isN_list, isN_tup, truD, oIx, uSl, uPart, uNoP, oSl, uCB, oLen, oList, oTuple, oInt, oAbs, oAll, oAny, oSum, onB, onI, uIs, uIs2, isT, uCall, uCallP, pick, vw, vw1, okU, okX, nolU, nol, nols, startU, kOf, kQ, kT, onL, uSeqI, uRng1, uRng2, rOk, uEnum, uRep, uTupRev, uYes, ugN, ugT2, wipeU, setU, uIfQ, uRetQ, uSetQ, uPutQ, ixC, uPar, uAsgT, uChain, uCall0, sizeLine_eq, oMax2, oSortI, oStrI, oIsB, szD, List.map_cons, List.map_nil, List.length_cons, List.length_nil, List.replicate, List.cons_append, List.nil_append, List.getElem?_cons_zero, List.getElem?_cons_succ, List.set_cons_zero, List.set_cons_succ, Option.map_some, Option.map_none, List.getD, Option.getD_some, if_true, true_and, and_true, Nat.reduceAdd, Nat.reduceSub, reduceIte, Bool.false_eq_true, Bool.not_true, Bool.not_false, pick]
    refine ⟨l, rfl, by omega, hl, ?_⟩
    simp [vw_jk, at_0, at_1, at_2, at_3, at_4, ix_40, ix_41, ix_42, ix_43, boolsD_comp, intsD_comp, sh_int, sh_bool, sh_none, sh_str, ev_int, ev_bool, ev_str, ev_none, ev_ni, ev_in, uIfS, evT, ev, uRet, uRetO, uRetN, uDrop, uSet, uSetO, uMove, uFrz, uNext, uBreak, uCont, uApp, uIns, uPut, uPutA, uAug, uRaise, uVar, uC, uOp, uUn, uTru, uTst, uNot, uAnd, uOr, uAndV, uOrV, uNotV, uIf, uNil, uCons, argU, uTup, uLst, allD, onDs, onD, onT, onBool, oI, oIC, oAdd, oEq, oIsN, isN_none, isN_int, isN_bool, isN_str, isN_list, isN_tup, truD, oIx, uSl, uPart, uNoP, oSl, uCB, oLen, oList, oTuple, oInt, oAbs, oAll, oAny, oSum, onB, onI, uIs, uIs2, isT, uCall, uCallP, pick, vw, vw1, okU, okX, nolU, nol, nols, startU, kOf, kQ, kT, onL, uSeqI, uRng1, uRng2, rOk, uEnum, uRep, uTupRev, uYes, ugN, ugT2, wipeU, setU, uIfQ, uRetQ, uSetQ, uPutQ, ixC, uPar, uAsgT, uChain, uCall0, sizeLine_eq, oMax2, oSortI, oStrI, oIsB, szD, List.map_cons, List.map_nil, List.length_cons, List.length_nil, List.replicate, List.cons_append, List.nil_append, List.getElem?_cons_zero, List.getElem?_cons_succ, List.set_cons_zero, List.set_cons_succ, Option.map_some, Option.map_none, List.getD, Option.getD_some, if_true, true_and, and_true, Nat.reduceAdd, Nat.reduceSub, reduceIte, Bool.false_eq_true, Bool.not_true, Bool.not_false, is_iff, eqI_self]
    refine ⟨l, rfl, by omega, hl, ?_⟩
    simp [vw_jk, at_0, at_1, at_2, at_3, at_4, ix_40, ix_41, ix_42, ix_43, boolsD_comp, intsD_comp, sh_int, sh_bool, sh_none, sh_str, ev_int, ev_bool, ev_str, ev_none, ev_ni, ev_in, uIfS, evT, ev, uRet, uRetO, uRetN, uDrop, uSet, uSetO, uMove, uFrz, uNext, uBreak, uCont, uApp, uIns, uPut, uPutA, uAug, uRaise, uVar, uC, uOp, uUn, uTru, uTst, uNot, uAnd, uOr, uAndV, uOrV, uNotV, uIf, uNil, uCons, argU, uTup, uLst, allD, onDs, onD, onT, onBool, oI, oIC, oAdd, oEq, oIsN, isN_none, isN_int, isN_bool, isN_str, isN_list, isN_tup, truD, oIx, uSl, uPart, uNoP, oSl, uCB, oLen, oList, oTuple, oInt, oAbs, oAll, oAny, oSum, onB, onI, uIs, uIs2, isT, uCall, uCallP, pick, vw, vw1, okU, okX, nolU, nol, nols, startU, kOf, kQ, kT, onL, uSeqI, uRng1, uRng2, rOk, uEnum, uRep, uTupRev, uYes, ugN, ugT2, wipeU, setU, uIfQ, uRetQ, uSetQ, uPutQ, ixC, uPar, uAsgT, uChain, uCall0, sizeLine_eq, oMax2, oSortI, oStrI, oIsB, szD, List.map_cons, List.map_nil, List.length_cons, List.length_nil, List.replicate, List.cons_append, List.nil_append, List.getElem?_cons_zero, List.getElem?_cons_succ, List.set_cons_zero, List.set_cons_succ, Option.map_some, Option.map_none, List.getD, Option.getD_some, if_true, true_and, and_true, Nat.reduceAdd, Nat.reduceSub, reduceIte, Bool.false_eq_true, Bool.not_true, Bool.not_false, is_iff, eqI_self]
    rw [hN5]
    refine i_seq fun N6 hN6 => ?_
    simp [vw_jk, at_0, at_1, at_2, at_3, at_4, ix_40, ix_41, ix_42, ix_43, boolsD_comp, intsD_comp, sh_int, sh_bool, sh_none, sh_str, ev_int, ev_bool, ev_str, ev_none, ev_ni, ev_in, uIfS, evT, ev, uRet, uRetO, uRetN, uDrop, uSet, uSetO, uMove, uFrz, uNext, uBreak, uCont, uApp, uIns, uPut, uPutA, uAug, uRaise, uVar, uC, uOp, uUn, uTru, uTst, uNot, uAnd, uOr, uAndV, uOrV, uNotV, uIf, uNil, uCons, argU, uTup, uLst, allD, onDs, onD, onT, onBool, oI, oIC, oAdd, oEq, oIsN, isN_none, isN_int, isN_bool, isN_str, isN_list, isN_tup, truD, oIx, uSl, uPart, uNoP, oSl, uCB, oLen, oList, oTuple, oInt, oAbs, oAll, oAny, oSum, onB, onI, uIs, uIs2, isT, uCall, uCallP, pick, vw, vw1, okU, okX, nolU, nol, nols, startU, kOf, kQ, kT, onL, uSeqI, uRng1, uRng2, rOk, uEnum, uRep, uTupRev, uYes, ugN, ugT2, wipeU, setU, uIfQ, uRetQ, uSetQ, uPutQ, ixC, uPar, uAsgT, uChain, uCall0, sizeLine_eq, oMax2, oSortI, oStrI, oIsB, szD, List.map_cons, List.map_nil, List.length_cons, List.length_nil, List.replicate, List.cons_append, List.nil_append, List.getElem?_cons_zero, List.getElem?_cons_succ, List.set_cons_zero, List.set_cons_succ, Option.map_some, Option.map_none, List.getD, Option.getD_some, if_true, true_and, and_true, Nat.reduceAdd, Nat.reduceSub, reduceIte, Bool.false_eq_true, Bool.not_true, Bool.not_false]
    refine ⟨lap, rfl, ?_⟩
    simp [vw_jk, at_0, at_1, at_2, at_3, at_4, ix_40, ix_41, ix_42, ix_43, boolsD_comp, intsD_comp, sh_int, sh_bool, sh_none, sh_str, ev_int, ev_bool, ev_str, ev_none, ev_ni, ev_in, uIfS, evT, ev, uRet, uRetO, uRetN, uDrop, uSet, uSetO, uMove, uFrz, uNext, uBreak, uCont, uApp, uIns, uPut, uPutA, uAug, uRaise, uVar, uC, uOp, uUn, uTru, uTst, uNot, uAnd, uOr, uAndV, uOrV, uNotV, uIf, uNil, uCons, argU, uTup, uLst, allD, onDs, onD, onT, onBool, oI, oIC, oAdd, oEq, oIsN, isN_none, isN_int, isN_bool, isN_str, isN_list, isN_tup, truD, oIx, uSl, uPart, uNoP, oSl, uCB, oLen, oList, oTuple, oInt, oAbs, oAll, oAny, oSum, onB, onI, uIs, uIs2, isT, uCall, uCallP, pick, vw, vw1, okU, okX, nolU, nol, nols, startU, kOf, kQ, kT, onL, uSeqI, uRng1, uRng2, rOk, uEnum, uRep, uTupRev, uYes, ugN, ugT2, wipeU, setU, uIfQ, uRetQ, uSetQ, uPutQ, ixC, uPar, uAsgT, uChain, uCall0, sizeLine_eq, oMax2, oSortI, oStrI, oIsB, szD, List.map_cons, List.map_nil, List.length_cons, List.length_nil, List.replicate, List.cons_append, List.nil_append, List.getElem?_cons_zero, List.getElem?_cons_succ, List.set_cons_zero, List.set_cons_succ, Option.map_some, Option.map_none, List.getD, Option.getD_some, if_true, true_and, and_true, Nat.reduceAdd, Nat.reduceSub, reduceIte, Bool.false_eq_true, Bool.not_true, Bool.not_false]
    refine ⟨lap, rfl, ?_⟩
    simp [vw_jk, at_0, at_1, at_2, at_3, at_4, ix_40, ix_41, ix_42, ix_43, boolsD_comp, intsD_comp, sh_int, sh_bool, sh_none, sh_str, ev_int, ev_bool, ev_str, ev_none, ev_ni, ev_in, uIfS, evT, ev, uRet, uRetO, uRetN, uDrop, uSet, uSetO, uMove, uFrz, uNext, uBreak, uCont, uApp, uIns, uPut, uPutA, uAug, uRaise, uVar, uC, uOp, uUn, uTru, uTst, uNot, uAnd, uOr, uAndV, uOrV, uNotV, uIf, uNil, uCons, argU, uTup, uLst, allD, onDs, onD, onT, onBool, oI, oIC, oAdd, oEq, oIsN, isN_none, isN_int, isN_bool, isN_str, isN_list, isN_tup, truD, oIx, uSl, uPart, uNoP, oSl, uCB, oLen, oList, oTuple, oInt, oAbs, oAll, oAny, oSum, onB, onI, uIs, uIs2, isT, uCall, uCallP, pick, vw, vw1, okU, okX, nolU, nol, nols, startU, kOf, kQ, kT, onL, uSeqI, uRng1, uRng2, rOk, uEnum, uRep, uTupRev, uYes, ugN, ugT2, wipeU, setU, uIfQ, uRetQ, uSetQ, uPutQ, ixC, uPar, uAsgT, uChain, uCall0, sizeLine_eq, oMax2, oSortI, oStrI, oIsB, szD, List.map_cons, List.map_nil, List.length_cons, List.length_nil, List.replicate, List.cons_append, List.nil_append, List.getElem?_cons_zero, List.getElem?_cons_succ, List.set_cons_zero, List.set_cons_succ, Option.map_some, Option.map_none, List.getD, Option.getD_some, if_true, true_and, and_true, Nat.reduceAdd, Nat.reduceSub, reduceIte, Bool.false_eq_true, Bool.not_true, Bool.not_false]
    rw [hN6]
    simp [vw_jk, at_0, at_1, at_2, at_3, at_4, ix_40, ix_41, ix_42, ix_43, boolsD_comp, intsD_comp, sh_int, sh_bool, sh_none, sh_str, ev_int, ev_bool, ev_str, ev_none, ev_ni, ev_in, uIfS, evT, ev, uRet, uRetO, uRetN, uDrop, uSet, uSetO, uMove, uFrz, uNext, uBreak, uCont, uApp, uIns, uPut, uPutA, uAug, uRaise, uVar, uC, uOp, uUn, uTru, uTst, uNot, uAnd, uOr, uAndV, uOrV, uNotV, uIf, uNil, uCons, argU, uTup, uLst, allD, onDs, onD, onT, onBool, oI, oIC, oAdd, oEq, oIsN, isN_none, isN_int, isN_bool, isN_str, isN_list, isN_tup, truD, oIx, uSl, uPart, uNoP, oSl, uCB, oLen, oList, oTuple, oInt, oAbs, oAll, oAny, oSum, onB, onI, uIs, uIs2, isT, uCall, uCallP, pick, vw, vw1, okU, okX, nolU, nol, nols, startU, kOf, kQ, kT, onL, uSeqI, uRng1, uRng2, rOk, uEnum, uRep, uTupRev, uYes, ugN, ugT2, wipeU, setU, uIfQ, uRetQ, uSetQ, uPutQ, ixC, uPar, uAsgT, uChain, uCall0, sizeLine_eq, oMax2, oSortI, oStrI, oIsB, szD, List.map_cons, List.map_nil, List.length_cons, List.length_nil, List.replicate, List.cons_append, List.nil_append, List.getElem?_cons_zero, List.getElem?_cons_succ, List.set_cons_zero, List.set_cons_succ, Option.map_some, Option.map_none, List.getD, Option.getD_some, if_true, true_and, and_true, Nat.reduceAdd, Nat.reduceSub, reduceIte, Bool.false_eq_true, Bool.not_true, Bool.not_false]
    refine ⟨rfl, ?_⟩
    simp [vw_jk, at_0, at_1, at_2, at_3, at_4, ix_40, ix_41, ix_42, ix_43, boolsD_comp, intsD_comp, sh_int, sh_bool, sh_none, sh_str, ev_int, ev_bool, ev_str, ev_none, ev_ni, ev_in, uIfS, evT, ev, uRet, uRetO, uRetN, uDrop, uSet, uSetO, uMove, uFrz, uNext, uBreak, uCont, uApp, uIns, uPut, uPutA, uAug, uRaise, uVar, uC, uOp, uUn, uTru, uTst, uNot, uAnd, uOr, uAndV, uOrV, uNotV, uIf, uNil, uCons, argU, uTup, uLst, allD, onDs, onD, onT, onBool, oI, oIC, oAdd, oEq, oIsN, isN_none, isN_int, isN_bool, isN_str, isN_list, isN_tup, truD, oIx, uSl, uPart, uNoP, oSl, uCB, oLen, oList, oTuple, oInt, oAbs, oAll, oAny, oSum, onB, onI, uIs, uIs2, isT, uCall, uCallP, pick, vw, vw1, okU, okX, nolU, nol, nols, startU, kOf, kQ, kT, onL, uSeqI, uRng1, uRng2, rOk, uEnum, uRep, uTupRev, uYes, ugN, ugT2, wipeU, setU, uIfQ, uRetQ, uSetQ, uPutQ, ixC, uPar, uAsgT, uChain, uCall0, sizeLine_eq, oMax2, oSortI, oStrI, oIsB, szD, List.map_cons, List.map_nil, List.length_cons, List.length_nil, List.replicate, List.cons_append, List.nil_append, List.getElem?_cons_zero, List.getElem?_cons_succ, List.set_cons_zero, List.set_cons_succ, Option.map_some, Option.map_none, List.getD, Option.getD_some, if_true, true_and, and_true, Nat.reduceAdd, Nat.reduceSub, reduceIte, Bool.false_eq_true, Bool.not_true, Bool.not_false]
    refine ⟨lap, rfl, ?_⟩
    exact eT _ _ rfl
theorem all_ok (T : Tk P K mg) : ∃ fd, Fun K "law" "law" s_law (He.ga K "law") fd ∧ (∀ (s : Shared) (v : Value), BindsTo s fd ⟨[v], []⟩ [("_law_script", v)]) ∧ FnOk P w K mg base (L2.CX P w) 9 (He.ga K "law") fd ["_law_script"] (spLaw K) := by
  obtain ⟨fw__law_whole, hw__law_whole⟩ := hasW__law_whole (P := P) (w := w) (base := base) T 
  obtain ⟨fw__law_is, hw__law_is⟩ := hasW__law_is (P := P) (w := w) (base := base) T hw__law_whole
  obtain ⟨fd__law_draw, h__law_draw⟩ := has__law_draw (P := P) (w := w) (base := base) T 
  obtain ⟨fd_factors_of, h_factors_of⟩ := has_factors_of (P := P) (w := w) (base := base) T 
  obtain ⟨fd__law_whole, h__law_whole⟩ := has__law_whole (P := P) (w := w) (base := base) T 
  obtain ⟨fd__law_is, h__law_is⟩ := has__law_is (P := P) (w := w) (base := base) T h__law_whole
  obtain ⟨fd__law_row, h__law_row⟩ := has__law_row (P := P) (w := w) (base := base) T h__law_is
  obtain ⟨fd_divisors_of, h_divisors_of⟩ := has_divisors_of (P := P) (w := w) (base := base) T h_factors_of
  obtain ⟨fd__law_tried, h__law_tried⟩ := has__law_tried (P := P) (w := w) (base := base) T h__law_whole
  obtain ⟨fd__law_of_number, h__law_of_number⟩ := has__law_of_number (P := P) (w := w) (base := base) T h_factors_of h__law_row h_divisors_of h__law_tried h__law_whole
  obtain ⟨fd_how_many_units, h_how_many_units⟩ := has_how_many_units (P := P) (w := w) (base := base) T h_factors_of
  obtain ⟨fd__law_units, h__law_units⟩ := has__law_units (P := P) (w := w) (base := base) T h__law_draw h__law_of_number h__law_is h_how_many_units
  obtain ⟨fd_need, h_need⟩ := has_need (P := P) (w := w) (base := base) T 
  obtain ⟨fd_is_integer, h_is_integer⟩ := has_is_integer (P := P) (w := w) (base := base) T 
  obtain ⟨fd_is_prime, h_is_prime⟩ := has_is_prime (P := P) (w := w) (base := base) T h_is_integer
  obtain ⟨fd_exponent_in, h_exponent_in⟩ := has_exponent_in (P := P) (w := w) (base := base) T h_need h_is_prime
  obtain ⟨fd_is_number, h_is_number⟩ := has_is_number (P := P) (w := w) (base := base) T h_is_integer
  obtain ⟨fd_gcd_of, h_gcd_of⟩ := has_gcd_of (P := P) (w := w) (base := base) T h_need h_is_number
  obtain ⟨fd_lcm_of, h_lcm_of⟩ := has_lcm_of (P := P) (w := w) (base := base) T h_need h_is_number h_gcd_of
  obtain ⟨fd_turns_of, h_turns_of⟩ := has_turns_of (P := P) (w := w) (base := base) T h_need h_gcd_of h_is_number
  obtain ⟨fd_inverse_of, h_inverse_of⟩ := has_inverse_of (P := P) (w := w) (base := base) T h_need h_is_number
  obtain ⟨fd__law_asked, h__law_asked⟩ := has__law_asked (P := P) (w := w) (base := base) T h_exponent_in h_gcd_of h_lcm_of h_turns_of h_inverse_of
  obtain ⟨fd__law_refused, h__law_refused⟩ := has__law_refused (P := P) (w := w) (base := base) T h__law_asked hw__law_is
  obtain ⟨fd__law_great, h__law_great⟩ := has__law_great (P := P) (w := w) (base := base) T h__law_draw
  obtain ⟨fd__law_powers, h__law_powers⟩ := has__law_powers (P := P) (w := w) (base := base) T h__law_draw h__law_is h__law_refused h_is_prime h__law_asked h__law_great h__law_tried
  obtain ⟨fd__law_odd, h__law_odd⟩ := has__law_odd (P := P) (w := w) (base := base) T 
  obtain ⟨fd__law_pairs, h__law_pairs⟩ := has__law_pairs (P := P) (w := w) (base := base) T h__law_great h__law_odd h__law_draw h__law_is h__law_refused h__law_asked h_turns_of h_gcd_of h_lcm_of
  obtain ⟨fd__law_common, h__law_common⟩ := has__law_common (P := P) (w := w) (base := base) T 
  obtain ⟨fd__law_small, h__law_small⟩ := has__law_small (P := P) (w := w) (base := base) T h__law_asked h__law_common h__law_draw h__law_is h_gcd_of h_lcm_of h_inverse_of h_turns_of h__law_refused
  obtain ⟨fd_product_of, h_product_of⟩ := has_product_of (P := P) (w := w) (base := base) T 
  exact ok_law T h__law_draw h__law_units h__law_powers h__law_great h__law_is h__law_pairs h__law_small h_product_of
abbrev lawK : Nat := 9
def mkD (x : Str) (st : Stmt) : He.FnD := ⟨(x, none), x, x, defArgs st, defBody st, defScope st⟩
def fn : List He.FnD := [mkD "is_integer" s_is_integer, mkD "is_number" s_is_number, mkD "need" s_need, mkD "gcd_of" s_gcd_of, mkD "lcm_of" s_lcm_of, mkD "turns_of" s_turns_of, mkD "inverse_of" s_inverse_of, mkD "product_of" s_product_of, mkD "factors_of" s_factors_of, mkD "divisors_of" s_divisors_of, mkD "how_many_units" s_how_many_units, mkD "exponent_in" s_exponent_in, mkD "is_prime" s_is_prime, mkD "_law_draw" s__law_draw, mkD "_law_great" s__law_great, mkD "_law_whole" s__law_whole, mkD "_law_is" s__law_is, mkD "_law_row" s__law_row, mkD "_law_tried" s__law_tried, mkD "_law_common" s__law_common, mkD "_law_asked" s__law_asked, mkD "_law_refused" s__law_refused, mkD "_law_odd" s__law_odd, mkD "_law_pairs" s__law_pairs, mkD "_law_small" s__law_small, mkD "_law_of_number" s__law_of_number, mkD "_law_units" s__law_units, mkD "_law_powers" s__law_powers, mkD "law" s_law]
def fa : List He.Fa := [.glo "is_integer", .glo "is_number", .glo "need", .glo "gcd_of", .glo "lcm_of", .glo "turns_of", .glo "inverse_of", .glo "product_of", .glo "factors_of", .glo "divisors_of", .glo "how_many_units", .glo "exponent_in", .glo "is_prime", .glo "_law_draw", .glo "_law_great", .glo "_law_whole", .glo "_law_is", .glo "_law_row", .glo "_law_tried", .glo "_law_common", .glo "_law_asked", .glo "_law_refused", .glo "_law_odd", .glo "_law_pairs", .glo "_law_small", .glo "_law_of_number", .glo "_law_units", .glo "_law_powers", .glo "law", .keep "is_integer", .keep "is_number", .keep "need", .keep "gcd_of", .keep "lcm_of", .keep "turns_of", .keep "inverse_of", .keep "product_of", .keep "factors_of", .keep "divisors_of", .keep "how_many_units", .keep "exponent_in", .keep "is_prime", .keep "_law_draw", .keep "_law_great", .keep "_law_whole", .keep "_law_is", .keep "_law_row", .keep "_law_tried", .keep "_law_common", .keep "_law_asked", .keep "_law_refused", .keep "_law_odd", .keep "_law_pairs", .keep "_law_small", .keep "_law_of_number", .keep "_law_units", .keep "_law_powers", .keep "law", .free "ValueError", .free "tuple", .free "range", .free "sum", .free "isinstance", .free "int", .free "sorted", .free "len", .free "str", .free "bool", .free "super", .glo "WheelError", .glo "PaperError", .glo "BoardError", .glo "LiveError", .glo "TextError", .glo "NotUsable", .exm "NotUsable" "NotUsable" true, .exm "NotUsable" "BoardError" true, .exm "NotUsable" "WheelError" true]
theorem fun_at {K : Fr} (c : He.SaysE fa fn K) {i j : Nat} {x : Str} {st : Stmt} (h : fn[i]? = some (mkD x st)) (hk : fa[j]? = some (.keep x)) : ∃ fd, Fun K x x st (He.ga K x) fd := by
  obtain ⟨oc, od, osl, kV, doc, pm, an, cdv, ct, l, cd⟩ := c.def_ i h
  exact ⟨_, fun_mk (st := st) l cd (He.keep_ok (c.fact j hk))⟩
/-- the written part, told by names -/
theorem tk_mk {P : Program} {K : Fr} {h : Heap} {mg : Str → Option Value} (X : K.In h) (G : h.Ns mainGlobals mg) (c : He.SaysE fa fn K)
    (x_NotUsable : PySem.XSup.Txt P K (He.ga K "NotUsable") (He.ma K (He.ga K "NotUsable") "__init__") "NotUsable")
    (xf : XfC K (He.ga K "NotUsable"))
    (ec : ExcC K (He.ga K "NotUsable"))
    (nw : PySem.W.findIn K (.ref (He.ga K "NotUsable")) "word" = some none)
    (na : PySem.W.findIn K (.ref (He.ga K "NotUsable")) "at" = some none)
    (i1 : PySem.W.kitOne K (.ref (He.ga K "NotUsable")) (.ref (He.ga K "BoardError")) = some true)
    (i2 : PySem.W.kitOne K (.ref (He.ga K "NotUsable")) (.ref (He.ga K "WheelError")) = some true)
    (i3 : PySem.W.kitOne K (.ref (He.ga K "NotUsable")) (.type "ValueError") = some true)
    (i4 : PySem.W.kitOne K (.ref (He.ga K "NotUsable")) (.ref (He.ga K "PaperError")) = some false)
    (i5 : PySem.W.kitOne K (.ref (He.ga K "NotUsable")) (.ref (He.ga K "LiveError")) = some false)
    (i6 : PySem.W.kitOne K (.ref (He.ga K "NotUsable")) (.ref (He.ga K "TextError")) = some false)
    (em : PySem.W.exmOne K (.ref (He.ga K "NotUsable")) (.ref (He.ga K "NotUsable")) = some true)
    : Tk P K mg :=
  { n_ValueError := He.free_ok X G (c.fact 58 (f := .free "ValueError") rfl),
    n_tuple := He.free_ok X G (c.fact 59 (f := .free "tuple") rfl),
    n_range := He.free_ok X G (c.fact 60 (f := .free "range") rfl),
    n_sum := He.free_ok X G (c.fact 61 (f := .free "sum") rfl),
    n_isinstance := He.free_ok X G (c.fact 62 (f := .free "isinstance") rfl),
    n_int := He.free_ok X G (c.fact 63 (f := .free "int") rfl),
    n_sorted := He.free_ok X G (c.fact 64 (f := .free "sorted") rfl),
    n_len := He.free_ok X G (c.fact 65 (f := .free "len") rfl),
    n_str := He.free_ok X G (c.fact 66 (f := .free "str") rfl),
    n_bool := He.free_ok X G (c.fact 67 (f := .free "bool") rfl),
    n_super := He.free_ok X G (c.fact 68 (f := .free "super") rfl),
    g_is_integer := He.glo_ok X G (c.fact 0 (f := .glo "is_integer") rfl),
    f_is_integer := fun_at c (i := 0) (j := 29) rfl rfl,
    g_is_number := He.glo_ok X G (c.fact 1 (f := .glo "is_number") rfl),
    f_is_number := fun_at c (i := 1) (j := 30) rfl rfl,
    g_need := He.glo_ok X G (c.fact 2 (f := .glo "need") rfl),
    f_need := fun_at c (i := 2) (j := 31) rfl rfl,
    g_gcd_of := He.glo_ok X G (c.fact 3 (f := .glo "gcd_of") rfl),
    f_gcd_of := fun_at c (i := 3) (j := 32) rfl rfl,
    g_lcm_of := He.glo_ok X G (c.fact 4 (f := .glo "lcm_of") rfl),
    f_lcm_of := fun_at c (i := 4) (j := 33) rfl rfl,
    g_turns_of := He.glo_ok X G (c.fact 5 (f := .glo "turns_of") rfl),
    f_turns_of := fun_at c (i := 5) (j := 34) rfl rfl,
    g_inverse_of := He.glo_ok X G (c.fact 6 (f := .glo "inverse_of") rfl),
    f_inverse_of := fun_at c (i := 6) (j := 35) rfl rfl,
    g_product_of := He.glo_ok X G (c.fact 7 (f := .glo "product_of") rfl),
    f_product_of := fun_at c (i := 7) (j := 36) rfl rfl,
    g_factors_of := He.glo_ok X G (c.fact 8 (f := .glo "factors_of") rfl),
    f_factors_of := fun_at c (i := 8) (j := 37) rfl rfl,
    g_divisors_of := He.glo_ok X G (c.fact 9 (f := .glo "divisors_of") rfl),
    f_divisors_of := fun_at c (i := 9) (j := 38) rfl rfl,
    g_how_many_units := He.glo_ok X G (c.fact 10 (f := .glo "how_many_units") rfl),
    f_how_many_units := fun_at c (i := 10) (j := 39) rfl rfl,
    g_exponent_in := He.glo_ok X G (c.fact 11 (f := .glo "exponent_in") rfl),
    f_exponent_in := fun_at c (i := 11) (j := 40) rfl rfl,
    g_is_prime := He.glo_ok X G (c.fact 12 (f := .glo "is_prime") rfl),
    f_is_prime := fun_at c (i := 12) (j := 41) rfl rfl,
    g__law_draw := He.glo_ok X G (c.fact 13 (f := .glo "_law_draw") rfl),
    f__law_draw := fun_at c (i := 13) (j := 42) rfl rfl,
    g__law_great := He.glo_ok X G (c.fact 14 (f := .glo "_law_great") rfl),
    f__law_great := fun_at c (i := 14) (j := 43) rfl rfl,
    g__law_whole := He.glo_ok X G (c.fact 15 (f := .glo "_law_whole") rfl),
    f__law_whole := fun_at c (i := 15) (j := 44) rfl rfl,
    g__law_is := He.glo_ok X G (c.fact 16 (f := .glo "_law_is") rfl),
    f__law_is := fun_at c (i := 16) (j := 45) rfl rfl,
    g__law_row := He.glo_ok X G (c.fact 17 (f := .glo "_law_row") rfl),
    f__law_row := fun_at c (i := 17) (j := 46) rfl rfl,
    g__law_tried := He.glo_ok X G (c.fact 18 (f := .glo "_law_tried") rfl),
    f__law_tried := fun_at c (i := 18) (j := 47) rfl rfl,
    g__law_common := He.glo_ok X G (c.fact 19 (f := .glo "_law_common") rfl),
    f__law_common := fun_at c (i := 19) (j := 48) rfl rfl,
    g__law_asked := He.glo_ok X G (c.fact 20 (f := .glo "_law_asked") rfl),
    f__law_asked := fun_at c (i := 20) (j := 49) rfl rfl,
    g__law_refused := He.glo_ok X G (c.fact 21 (f := .glo "_law_refused") rfl),
    f__law_refused := fun_at c (i := 21) (j := 50) rfl rfl,
    g__law_odd := He.glo_ok X G (c.fact 22 (f := .glo "_law_odd") rfl),
    f__law_odd := fun_at c (i := 22) (j := 51) rfl rfl,
    g__law_pairs := He.glo_ok X G (c.fact 23 (f := .glo "_law_pairs") rfl),
    f__law_pairs := fun_at c (i := 23) (j := 52) rfl rfl,
    g__law_small := He.glo_ok X G (c.fact 24 (f := .glo "_law_small") rfl),
    f__law_small := fun_at c (i := 24) (j := 53) rfl rfl,
    g__law_of_number := He.glo_ok X G (c.fact 25 (f := .glo "_law_of_number") rfl),
    f__law_of_number := fun_at c (i := 25) (j := 54) rfl rfl,
    g__law_units := He.glo_ok X G (c.fact 26 (f := .glo "_law_units") rfl),
    f__law_units := fun_at c (i := 26) (j := 55) rfl rfl,
    g__law_powers := He.glo_ok X G (c.fact 27 (f := .glo "_law_powers") rfl),
    f__law_powers := fun_at c (i := 27) (j := 56) rfl rfl,
    g_law := He.glo_ok X G (c.fact 28 (f := .glo "law") rfl),
    f_law := fun_at c (i := 28) (j := 57) rfl rfl,
    g_WheelError := He.glo_ok X G (c.fact 69 (f := .glo "WheelError") rfl),
    g_PaperError := He.glo_ok X G (c.fact 70 (f := .glo "PaperError") rfl),
    g_BoardError := He.glo_ok X G (c.fact 71 (f := .glo "BoardError") rfl),
    g_LiveError := He.glo_ok X G (c.fact 72 (f := .glo "LiveError") rfl),
    g_TextError := He.glo_ok X G (c.fact 73 (f := .glo "TextError") rfl),
    g_NotUsable := He.glo_ok X G (c.fact 74 (f := .glo "NotUsable") rfl),
    x_NotUsable := x_NotUsable,
    xf := xf,
    ec := ec,
    nw := nw,
    na := na,
    i1 := i1,
    i2 := i2,
    i3 := i3,
    i4 := i4,
    i5 := i5,
    i6 := i6,
    em := em }
theorem exm_NotUsable_NotUsable {K : Fr} (c : He.SaysE fa fn K) : PySem.W.exmOne K (.ref (He.ga K "NotUsable")) (.ref (He.ga K "NotUsable")) = some true := He.exm_ok (c.fact 75 (f := .exm "NotUsable" "NotUsable" true) rfl)
theorem exm_NotUsable_BoardError {K : Fr} (c : He.SaysE fa fn K) : PySem.W.exmOne K (.ref (He.ga K "NotUsable")) (.ref (He.ga K "BoardError")) = some true := He.exm_ok (c.fact 76 (f := .exm "NotUsable" "BoardError" true) rfl)
theorem exm_NotUsable_WheelError {K : Fr} (c : He.SaysE fa fn K) : PySem.W.exmOne K (.ref (He.ga K "NotUsable")) (.ref (He.ga K "WheelError")) = some true := He.exm_ok (c.fact 77 (f := .exm "NotUsable" "WheelError" true) rfl)
theorem kit_of_exm {K : Fr} {t c : Value} (h : PySem.W.exmOne K t c = some true) : PySem.W.kitOne K t c = some true := by
  unfold PySem.W.exmOne at h
  split at h
  · unfold PySem.W.kitOne
    split
    · rfl
    · exact h
  · cases h
def q0 (n : Nat) : Pos := [⟨15, 8, 15, 13⟩, ⟨15, 8, 15, 15⟩, ⟨15, 8, 15, 24⟩, ⟨15, 25, 15, 46⟩, ⟨15, 8, 15, 47⟩, ⟨15, 8, 15, 47⟩, ⟨16, 8, 16, 12⟩, ⟨16, 8, 16, 17⟩, ⟨16, 20, 16, 24⟩, ⟨16, 8, 16, 24⟩, ⟨17, 8, 17, 12⟩, ⟨17, 8, 17, 15⟩, ⟨17, 18, 17, 20⟩, ⟨17, 8, 17, 20⟩].getD n ⟨0, 0, 0, 0⟩
abbrev a0 : Arguments := PySem.XSup.xA ⟨14, 17, 14, 21⟩ ⟨14, 23, 14, 27⟩ ⟨14, 29, 14, 31⟩
abbrev b0 : List Stmt := PySem.XSup.xB "argument not usable" 0 q0
theorem fin {P : Program} {w : World} {K : Fr} {h : Heap} {mg : Str → Option Value} {fa0 C f1 cda cc : Addr} (X : K.In h) (G : h.Ns mainGlobals mg) (hfa : mg "law" = some (.ref fa0)) (c : He.SaysE fa fn K)
    {nm q : Str} {N : Addr} {bs bm : List Value} {sn : List Str} {sub : List Value} {ab : Bool} {col : Option Bool} {dd : Option Addr} {m0 m1 m2 m3 m5 : Option Value}
    {oc1 dc1 pm1 ct1 ccl cl : Value} {od1 an1 cdd cld : Option Addr} {sl1 ccs csl : Array (Option Value)} {vs : Array Value} {file : Str} {tf : Tok}
    (aC : PySem.W.nsIn K mainGlobals "NotUsable" = some (some (.ref C)))
    (xL : K.lookup C = some (excClassObj nm q C N bs bm true sn sub ab col dd m0 m1 m2 m3 m5 "ValueError.__new__")) (rb : PySem.HandSPX.refsVE bm = true)
    (sa : PySem.W.findIn K (.ref C) "__setattr__" = some (some (.builtin "object.__setattr__"))) (nw : PySem.W.findIn K (.ref C) "word" = some none) (na : PySem.W.findIn K (.ref C) "at" = some none)
    (a1 : PySem.W.findIn K (.ref C) "__init__" = some (some (.ref f1))) (t1 : PySem.W.typeIn K (.ref f1) = some (.type "function")) (kC : PySem.W.keepIn K (.ref C) = true)
    (eC : PySem.W.subIn K (.ref C) (.type "BaseException") = some true) (vC : PySem.W.subIn K (.ref C) (.type "ValueError") = some true) (tC : PySem.W.typeIn K (.ref C) = some (.type "type"))
    (mC : PySem.W.mroIn K C (.ref C) = some true) (sC : PySem.W.ks_superIn K C C "__init__" = some (some (.builtin "ValueError.__init__"))) (oq : PySem.W.nsIn K cStatics "thirdparty.any" = some none)
    (l1 : K.lookup f1 = some ⟨oc1, od1, .func (PySem.W.ksFn "__init__" "NotUsable.__init__" a0 b0 PySem.XSup.xS .none .none dc1 pm1 an1 (.ref cda) ct1 cc), sl1⟩) (c1 : PySem.W.codeIn K (.ref cda) "NotUsable.__init__" = true)
    (lc : K.lookup cda = some ⟨ccl, cdd, .fields vs, ccs⟩) (hv : vs[2]? = some (.str file tf)) (hf : ((P.main.file : Str) == file) = true) (lk : K.lookup cc = some ⟨cl, cld, .cell (some (.ref C)), csl⟩)
    (hs : (P.main.scope.names.lookup ("super" : Str)).isSome = false)
    (ga : PySem.W.findIn K (.ref C) "__getattribute__" = some (some (.builtin "BaseException.__getattribute__"))) (gg : PySem.W.findIn K (.ref C) "__getattr__" = some none) (hd : PySem.W.hasDictIn K C = true)
    (hc : PySem.W.findIn K (.ref C) "__class__" = some (some (.builtin "object.__class__"))) (sg : PySem.W.specialIn K (.builtin "object.__class__") "__get__" = some (some (.builtin "getset_descriptor.__get__")))
    (tk : PySem.W.takesIn K (.builtin "object.__class__") = some true) (mo : PySem.W.mroIn K C (.type "object") = some true)
    (i1 : PySem.W.kitOne K (.ref (He.ga K "NotUsable")) (.ref (He.ga K "BoardError")) = some true)
    (i2 : PySem.W.kitOne K (.ref (He.ga K "NotUsable")) (.ref (He.ga K "WheelError")) = some true)
    (i3 : PySem.W.kitOne K (.ref (He.ga K "NotUsable")) (.type "ValueError") = some true)
    (i4 : PySem.W.kitOne K (.ref (He.ga K "NotUsable")) (.ref (He.ga K "PaperError")) = some false)
    (i5 : PySem.W.kitOne K (.ref (He.ga K "NotUsable")) (.ref (He.ga K "LiveError")) = some false)
    (i6 : PySem.W.kitOne K (.ref (He.ga K "NotUsable")) (.ref (He.ga K "TextError")) = some false) :
    ∃ fd : FuncData, (∀ (s : Shared) (v : Value), BindsTo s fd ⟨[v], []⟩ [("_law_script", v)]) ∧ ∀ base : Heap, K.In base → base.Ns mainGlobals mg → FnOk P w K mg base (L2.CX P w) lawK fa0 fd ["_law_script"] (spLaw K) := by
  have eC0 : He.ga K "NotUsable" = C := by unfold He.ga; rw [aC]
  have eI0 : He.ma K (He.ga K "NotUsable") "__init__" = f1 := by rw [eC0]; unfold He.ma; rw [a1]
  have T : Tk P K mg := tk_mk X G c
    (by
      rw [eI0, eC0]
      exact ⟨⟨nm, q, N, bs, bm, sn, sub, ab, col, dd, m0, m1, m2, m3, m5, xL, rb⟩, sa, nw, na, a1, t1, kC, eC, vC, tC, mC, sC, rfl, oq, ⟨oc1, od1, .none, .none, dc1, pm1, an1, cda, ct1, cc, sl1, _, _, _, _, _, _, q0, ccl, cdd, vs, ccs, file, tf, cl, cld, csl, l1, c1, rfl, rfl, lc, hv, hf, rfl, lk⟩, hs⟩)
    (by rw [eC0]; exact ⟨ga, gg, eC, hd⟩) (by rw [eC0]; exact ⟨ga, gg, eC, hd, hc, sg, tk, mo⟩) (by rw [eC0]; exact nw) (by rw [eC0]; exact na)
    i1 i2 i3 i4 i5 i6 (exm_NotUsable_NotUsable c)
  have e : fa0 = He.ga K "law" := by
    have := hfa.symm.trans T.g_law
    injection this with this
    injection this
  subst e
  obtain ⟨fd, F, hb, _⟩ := all_ok (P := P) (w := w) (base := h) T
  refine ⟨fd, hb, fun base _ _ => ?_⟩
  obtain ⟨fd2, F2, _, ok⟩ := all_ok (P := P) (w := w) (base := base) T
  have ee : fd2 = fd := by
    obtain ⟨oc, od, kV, doc, pm, an, cdv, ct, osl, e1, l2, _⟩ := F.ex
    obtain ⟨oc', od', kV', doc', pm', an', cdv', ct', osl', e1', l2', _⟩ := F2.ex
    rw [l2] at l2'
    injection l2' with l3
    injection l3 with _ _ l4 _
    injection l4 with l5
    exact l5.symm
  rw [ee] at ok
  exact ok
theorem walk {l : PySem.W.OpenLaw} {q : Program} {loose : List Str} {XP : (Str → Option Value) → Heap → Prop} {YP : World → Heap → Prop} {d : DefRec} {K : Params → PySem.W.Frag} (hn : l.most = some 63) (hdf : d.params.defaults = [])
    (hY : ∀ (w : World) (h : Heap), YP w h → (K w.params).In h)
    (F : ∀ (w : World) (mg : Str → Option Value) (fa : Addr) (h : Heap), (K w.params).In h → h.Ns mainGlobals mg → mg d.name = some (.ref fa) →
      ∃ fd : FuncData, (∀ (s : Shared) (u : Value), BindsTo s fd ⟨[u], []⟩ [("_law_script", u)]) ∧ ∀ base : Heap, (K w.params).In base → base.Ns mainGlobals mg → FnOk l.prog w (K w.params) mg base (L2.CX l.prog w) lawK fa fd ["_law_script"] (spLaw (K w.params))) :
    PySem.W.WalkO q loose XP YP l.row.toRowW d [] (fun f vs => PySem.call f vs) :=
  L2.walk_of (n := 63) (k := lawK) (x := "_law_script") (CX := fun w => L2.CX l.prog w) (sp := fun w => spLaw (K w.params)) hn (by decide) hdf ⟨rfl, by decide, by decide⟩ hY F (fun _ _ a ns hl _ hS => ⟨a, ns, rfl, hl, hS, fun _ => rfl⟩) fun _ _ _ _ _ z => by
    obtain ⟨_, _, _, _, _, _, _, _, _, _, _, _, z⟩ := z
    exact z.elim
end K01
open PySem PySem.W PyProof.Rows
set_option maxRecDepth 100000 in
set_option maxHeartbeats 0 in
theorem PySem.Challenge.cw_wheelwritten_k01_whole_arithmetic_holds : PySem.Challenge.rw_wheelwritten_k01_whole_arithmetic.Holds := by
  w_on; o_law; k_head; (case hw => w_witness2)
  k_fill
  refine K01.walk (l := PySem.Challenge.rw_wheelwritten_k01_whole_arithmetic) rfl rfl (fun w h Y => PySem.W.kIn_of Y) ?F
  case F =>
    intro w mg fa h KX G hmg
    refine' K01.fin KX G hmg ?says ?aC ?xL ?rb ?sa ?nw ?na ?a1 ?t1 ?kC ?eC ?vC ?tC ?mC ?sC ?oq ?l1 ?c1 ?lc ?hv ?hf ?lk ?hs ?ga ?gg ?hd ?hcl ?sg ?tk ?mo ?i1 ?i2 ?i3 ?i4 ?i5 ?i6
    (case aC => k_is); (case xL => k_is); (case rb => first | rfl | decide +kernel); (case sa => k_is); (case nw => k_is); (case na => k_is)
    (case a1 => k_is); (case t1 => k_is); (case kC => k_is); (case eC => k_is); (case vC => k_is); (case tC => k_is); (case mC => k_is)
    (case sC => first | k_is | kernel_rfl | rfl)
    (case oq => k_is); (case l1 => k_is); (case c1 => k_is); (case lc => k_is); (case hv => rfl); (case hf => first | rfl | decide +kernel); (case lk => k_is); (case hs => first | rfl | decide +kernel)
    (case ga => k_is); (case gg => k_is); (case hd => k_is); (case hcl => k_is); (case sg => k_is); (case tk => k_is); (case mo => k_is)
    (case i1 => kernel_rfl)
    (case i2 => kernel_rfl)
    (case i3 => kernel_rfl)
    (case i4 => kernel_rfl)
    (case i5 => kernel_rfl)
    (case i6 => kernel_rfl)
    (case says => show He.obsE K01.fa K01.fn _ = He.valE K01.fn; kernel_rfl)
#print axioms PySem.Challenge.cw_wheelwritten_k01_whole_arithmetic_holds
