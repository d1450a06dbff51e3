import PyProof.Rows.All
import Wide.All
import OpenK.AllK
import Wide.FinOn
import HandS.ForMost
import HandS.Exc
import HandS.ExcOwn
import HandS.TryOnly
import HandS.WordsExc
import HandS.Flow
import HandS.IsInst
import HandS.TupAny
import HandS.Wide
import HandS.Zip
import HandS.SortInts
import HandS.More
import HandS.Iter
import KE.GoesNew
import KE.GoesEnum
import KE.KExcSuper
import HandS.ExcInit
import HandS.ExcField
import HandS.ExcIs
import HandS.ExcSuper
import HandS.Rev
import HandS.HeadHook1
import PySem.Challenge.RW_wheelwritten_k40_whole_agreements_and_th
set_option Elab.async false
set_option linter.all false
set_option maxRecDepth 100000
set_option maxHeartbeats 4000000
/-! A layer of data without a heap, over the hand layer: what is frozen (F), what is owned, one cell of draws. -/
namespace Pl
open PySem L2
abbrev D := PyData
/-- what an abstract slot or a result is: data | a list that nobody else holds | the cell of draws -/
inductive U where
  | d (x : D) | own (l : List D) | hold (V : List D → Prop) | exc (a dd : Addr) (fs : List (Str × D))
def Sub (F F' : Hp) : Prop := ∀ b o, F b = some o → F' b = some o
/-- the cell of draws: where, what its content keeps, what stands frozen for it -/
structure Rg where
  a : Option Addr
  HV : List D → Prop
  bad : Addr → Prop
def Rg.no : Rg := ⟨none, fun _ => True, fun _ => False⟩
abbrev Sl := List (Option U)
/-- an exception: its class, its fields -/
structure Ex where
  C : Addr
  fs : List (Str × D)
abbrev Fr := PySem.W.Frag
def dat : U → Option D
  | .d x => some x
  | .own l => some (.list l)
  | .hold _ => none
  | .exc _ _ _ => none
/-- what follows a result taken as data -/
def onD (r : U) (k : D → Prop) : Prop := match r with
  | .d x => k x
  | .own l => k (.list l)
  | .hold _ => False
  | .exc _ _ _ => False
mutual
def nol : D → Bool
  | .none => true
  | .bool _ => true
  | .int _ => true
  | .str _ => true
  | .list _ => false
  | .tuple l => nols l
  | .dict _ => false
def nols : List D → Bool
  | [] => true
  | x :: l => nol x && nols l
end
def nolU : U → Bool
  | .d x => nol x
  | .own l => nols l
  | .hold _ => true
  | .exc _ _ _ => false

/-! ### frozen parts -/
section
variable {K : Fr} {R : Rg} {F F' F'' H H' H'' : Hp}
theorem Sub.refl : Sub F F := fun _ _ h => h
theorem Sub.trans (a : Sub F F') (b : Sub F' F'') : Sub F F'' := fun x o h => b x o (a x o h)
theorem Sub.new {p : Addr} {o : HO} (h : F p = none) : Sub F (upd F p o) := fun b u e => by
  rw [upd_ne (ne_of_none e h)]; exact e
theorem Sub.rd {a : Addr} {u : HO} (e : Sub F F') (h : Rd F a u) : Rd F' a u := by
  rcases h with h | ⟨o, h⟩
  · exact .inl (e a _ h)
  · exact .inr ⟨o, e a _ h⟩
theorem Sub.l {a : Addr} {xs : List V} (e : Sub F F') (h : SqL K F a xs) : SqL K F' a xs := h.imp (fun h => e.rd h) fun h => h
theorem Sub.t {a : Addr} {xs : List V} (e : Sub F F') (h : SqT K F a xs) : SqT K F' a xs := h.imp (fun h => e.rd h) fun h => h
mutual
theorem Sub.dp (e : Sub F F') : ∀ (d : D) (v : V), Dp K F v d → Dp K F' v d
  | .none, _, h => by cases h; exact .non
  | .bool _, _, h => by cases h; exact .bl _
  | .int _, _, h => by cases h; exact .int _
  | .str _, _, h => by cases h; exact .str _
  | .list l, _, h => by cases h with | lst s a => exact .lst (e.l s) (Sub.dps e l _ a)
  | .tuple l, _, h => by cases h with | tup s a => exact .tup (e.t s) (Sub.dps e l _ a)
  | .dict _, _, h => by cases h
theorem Sub.dps (e : Sub F F') : ∀ (l : List D) (vs : List V), DpAll K F vs l → DpAll K F' vs l
  | [], _, h => by cases h; exact .nil
  | d :: l, _, h => by cases h with | cons a b => exact .cons (Sub.dp e d _ a) (Sub.dps e l _ b)
end
theorem _root_.L2.Dp.subH {d : D} {v : V} (h : Dp K F v d) (e : Sub F F') : Dp K F' v d := e.dp d v h
theorem _root_.L2.DpAll.subH {l : List D} {vs : List V} (h : DpAll K F vs l) (e : Sub F F') : DpAll K F' vs l := e.dps l vs h
theorem _root_.L2.DpAll.lengthH {vs : List V} {l : List D} (h : DpAll K F vs l) : vs.length = l.length := by
  induction l generalizing vs with
  | nil => cases h; rfl
  | cons d l ih => cases h with | cons a b => simp [ih b]
theorem _root_.L2.DpAll.getH {vs : List V} {l : List D} {i : Nat} {d : D} (h : DpAll K F vs l) (e : l[i]? = some d) : ∃ v, vs[i]? = some v ∧ Dp K F v d := by
  induction l generalizing vs i with
  | nil => simp at e
  | cons x l ih =>
    cases h with
    | cons a b =>
      cases i with
      | zero => simp at e; subst e; exact ⟨_, by simp, a⟩
      | succ i => obtain ⟨v, h1, h2⟩ := ih (i := i) b (by simpa using e); exact ⟨v, by simpa using h1, h2⟩
theorem _root_.L2.DpAll.getVH {vs : List V} {l : List D} {i : Nat} {v : V} (h : DpAll K F vs l) (e : vs[i]? = some v) : ∃ d, l[i]? = some d ∧ Dp K F v d := by
  have hi := (List.getElem?_eq_some_iff.mp e).1
  rw [h.lengthH] at hi
  obtain ⟨v', h1, h2⟩ := h.getH (List.getElem?_eq_getElem hi)
  rw [e] at h1
  cases h1
  exact ⟨_, List.getElem?_eq_getElem hi, h2⟩
theorem _root_.L2.DpAll.appendH {vs ws : List V} {l m : List D} (h : DpAll K F vs l) (g : DpAll K F ws m) : DpAll K F (vs ++ ws) (l ++ m) := by
  induction l generalizing vs with
  | nil => cases h; exact g
  | cons d l ih => cases h with | cons a b => exact .cons a (ih b)
theorem _root_.L2.DpAll.oneH {v : V} {d : D} (h : Dp K F v d) : DpAll K F [v] [d] := .cons h .nil
theorem _root_.L2.DpAll.setH {vs : List V} {l : List D} {i : Nat} {v : V} {d : D} (h : DpAll K F vs l) (g : Dp K F v d) : DpAll K F (vs.set i v) (l.set i d) := by
  induction l generalizing vs i with
  | nil => cases h; exact .nil
  | cons x l ih =>
    cases h with
    | cons a b =>
      cases i with
      | zero => exact .cons g b
      | succ i => exact .cons a (ih b)
theorem _root_.L2.DpAll.takeH {vs : List V} {l : List D} (n : Nat) (h : DpAll K F vs l) : DpAll K F (vs.take n) (l.take n) := by
  induction l generalizing vs n with
  | nil => cases h; simp; exact .nil
  | cons x l ih =>
    cases h with
    | cons a b =>
      cases n with
      | zero => exact .nil
      | succ n => exact .cons a (ih n b)
theorem _root_.L2.DpAll.dropH {vs : List V} {l : List D} (n : Nat) (h : DpAll K F vs l) : DpAll K F (vs.drop n) (l.drop n) := by
  induction l generalizing vs n with
  | nil => cases h; simp; exact .nil
  | cons x l ih =>
    cases h with
    | cons a b =>
      cases n with
      | zero => exact .cons a b
      | succ n => exact ih n b
/-- values without lists stand on tuples alone -/
theorem Sub.rdt {a : Addr} {xs : List V} (e : ∀ b, (∀ l, F b ≠ some (.lst l)) → ∀ o, F b = some o → F' b = some o) (h : SqT K F a xs) : SqT K F' a xs := by
  rcases h with h | h
  · rcases h with h | ⟨o, h⟩
    · exact .inl (.inl (e a (fun l z => by rw [h] at z; cases z) _ h))
    · exact .inl (.inr ⟨o, e a (fun l z => by rw [h] at z; cases z) _ h⟩)
  · exact .inr h
mutual
theorem dp_nol (e : ∀ b, (∀ l, F b ≠ some (.lst l)) → ∀ o, F b = some o → F' b = some o) : ∀ (d : D) (v : V), nol d = true → Dp K F v d → Dp K F' v d
  | .none, _, _, h => by cases h; exact .non
  | .bool _, _, _, h => by cases h; exact .bl _
  | .int _, _, _, h => by cases h; exact .int _
  | .str _, _, _, h => by cases h; exact .str _
  | .list l, _, n, h => by simp [nol] at n
  | .tuple l, _, n, h => by cases h with | tup s a => exact .tup (Sub.rdt e s) (dps_nol e l _ (by simpa [nol] using n) a)
  | .dict _, _, _, h => by cases h
theorem dps_nol (e : ∀ b, (∀ l, F b ≠ some (.lst l)) → ∀ o, F b = some o → F' b = some o) : ∀ (l : List D) (vs : List V), nols l = true → DpAll K F vs l → DpAll K F' vs l
  | [], _, _, h => by cases h; exact .nil
  | d :: l, _, n, h => by
    cases h with
    | cons a b =>
      have n' : (nol d && nols l) = true := by simpa [nols] using n
      exact .cons (dp_nol e d _ (Bool.and_eq_true_iff.mp n').1 a) (dps_nol e l _ (Bool.and_eq_true_iff.mp n').2 b)
end

/-- the frozen part F of the heap H, the cell of draws beside it -/
structure Ok (K : Fr) (R : Rg) (F H : Hp) : Prop where
  sub : Sub F H
  dis : ∀ b, R.a = some b → F b = none
  inv : ∀ b, R.a = some b → ∃ xs l G, H b = some (.lst xs) ∧ Sub G F ∧ (∀ c, R.bad c → G c = none) ∧ DpAll K G xs l ∧ R.HV l
  alive : ∀ b, R.bad b → H b ≠ none
/-- it grows: nothing is changed but the cell of draws -/
structure Gr (K : Fr) (R : Rg) (F H F' H' : Hp) : Prop where
  ex : Sub F F'
  keep : ∀ b o, ¬ R.a = some b → H b = some o → H' b = some o
  new : ∀ b o, F' b = some o → F b = some o ∨ H b = none
  ok : Ok K R F' H'
theorem Ok.refl (ok : Ok K R F H) : Gr K R F H F H := ⟨Sub.refl, fun _ _ _ h => h, fun _ _ h => .inl h, ok⟩
theorem Gr.trans (a : Gr K R F H F' H') (b : Gr K R F' H' F'' H'') : Gr K R F H F'' H'' := by
  refine ⟨a.ex.trans b.ex, fun c o n h => b.keep c o n (a.keep c o n h), fun c o h => ?_, b.ok⟩
  rcases b.new c o h with h1 | h1
  · exact a.new c o h1
  · refine .inr ?_
    cases e : H c with
    | none => rfl
    | some u =>
      by_cases hd : R.a = some c
      · rw [b.ok.dis c hd] at h; cases h
      · rw [a.keep c u hd e] at h1; cases h1
/-- a new frozen object -/
theorem Ok.frz {p : Addr} {o : HO} (ok : Ok K R F H) (hp : H p = none) : Gr K R F H (upd F p o) (upd H p o) := by
  have hF : F p = none := by
    cases e : F p with
    | none => rfl
    | some u => rw [ok.sub p u e] at hp; cases hp
  have hd : ¬ R.a = some p := fun z => by
    obtain ⟨xs, _, _, h, _⟩ := ok.inv p z
    rw [hp] at h; cases h
  refine ⟨Sub.new hF, fun b u _ e => by rw [upd_ne (ne_of_none e hp)]; exact e, fun b u e => ?_, ⟨fun b u e => ?_, fun b hb => ?_, fun b hb => ?_, fun b hb => ?_⟩⟩
  · by_cases hb : b = p
    · subst hb; exact .inr hp
    · rw [upd_ne hb] at e; exact .inl e
  · by_cases hb : b = p
    · subst hb; rw [upd_same] at e ⊢; exact e
    · rw [upd_ne hb] at e ⊢; exact ok.sub b u e
  · have n : b ≠ p := fun z => hd (z ▸ hb)
    rw [upd_ne n]; exact ok.dis b hb
  · have n : b ≠ p := fun z => hd (z ▸ hb)
    obtain ⟨xs, l, G, h, i, j⟩ := ok.inv b hb
    exact ⟨xs, l, G, by rw [upd_ne n]; exact h, i.trans (Sub.new hF), j⟩
  · by_cases n : b = p
    · rw [n, upd_same]; simp
    · rw [upd_ne n]; exact ok.alive b hb
/-- a new object that is not frozen -/
theorem Ok.lay {p : Addr} {o : HO} (ok : Ok K R F H) (hp : H p = none) : Gr K R F H F (upd H p o) := by
  have hd : ¬ R.a = some p := fun z => by
    obtain ⟨xs, _, _, h, _⟩ := ok.inv p z
    rw [hp] at h; cases h
  refine ⟨Sub.refl, fun b u _ e => by rw [upd_ne (ne_of_none e hp)]; exact e, fun b u e => .inl e, ⟨fun b u e => ?_, ok.dis, fun b hb => ?_, fun b hb => ?_⟩⟩
  · have e' := ok.sub b u e
    rw [upd_ne (ne_of_none e' hp)]; exact e'
  · have n : b ≠ p := fun z => hd (z ▸ hb)
    obtain ⟨xs, l, G, h, i⟩ := ok.inv b hb
    exact ⟨xs, l, G, by rw [upd_ne n]; exact h, i⟩
  · by_cases n : b = p
    · rw [n, upd_same]; simp
    · rw [upd_ne n]; exact ok.alive b hb
/-- an object that nobody holds is frozen as it stands -/
theorem Ok.freeze {p : Addr} {o : HO} (ok : Ok K R F H) (hp : H p = some o) (hF : F p = none) (hd : ¬ R.a = some p) : Ok K R (upd F p o) H := by
  refine ⟨fun b u e => ?_, fun b hb => ?_, fun b hb => ?_, ok.alive⟩
  · by_cases hb : b = p
    · subst hb; rw [upd_same] at e; cases e; exact hp
    · rw [upd_ne hb] at e; exact ok.sub b u e
  · have n : b ≠ p := fun z => hd (z ▸ hb)
    rw [upd_ne n]; exact ok.dis b hb
  · obtain ⟨xs, l, G, h, i, j⟩ := ok.inv b hb
    exact ⟨xs, l, G, h, i.trans (Sub.new hF), j⟩

/-- an exception that is held at a, its fields in the dict at dd -/
def RepE (K : Fr) (F : Hp) (v : V) (a dd : Addr) (fs : List (Str × D)) : Prop := v = .ref a ∧ ∃ gs : List (Str × V), F dd = some (.xd gs) ∧ ∀ f y, fs.lookup f = some y → ∃ v, gs.lookup f = some v ∧ Dp K F v y
theorem RepE.sub {v : V} {a dd : Addr} {fs : List (Str × D)} (h : RepE K F v a dd fs) (e : Sub F F') : RepE K F' v a dd fs := by
  obtain ⟨h1, gs, h2, h3⟩ := h
  refine ⟨h1, gs, e _ _ h2, fun f y hy => ?_⟩
  obtain ⟨v, h4, h5⟩ := h3 f y hy
  exact ⟨v, h4, L2.Dp.subH h5 e⟩
/-- a result's value -/
def RepR (K : Fr) (R : Rg) (H F' H' : Hp) (v : V) : U → Prop
  | .d x => Dp K F' v x
  | .own l => ∃ p xs, v = .ref p ∧ H' p = some (.lst xs) ∧ DpAll K F' xs l ∧ F' p = none ∧ H p = none ∧ ¬ R.a = some p
  | .hold V => ∃ a, v = .ref a ∧ R.a = some a ∧ R.HV = V
  | .exc a dd fs => RepE K F' v a dd fs
/-- an argument's, a slot's value -/
def RepA (K : Fr) (R : Rg) (F : Hp) (v : V) : U → Prop
  | .d x => Dp K F v x
  | .own _ => False
  | .hold V => ∃ a, v = .ref a ∧ R.a = some a ∧ R.HV = V
  | .exc a dd fs => RepE K F v a dd fs
def RepX (K : Fr) (F : Hp) (cls : Value) (d : Option Addr) (x : Ex) : Prop :=
  cls = .ref x.C ∧ ∃ (dd : Addr) (fs : List (Str × V)), d = some dd ∧ F dd = some (.xd fs) ∧ ∀ f y, x.fs.lookup f = some y → ∃ v, fs.lookup f = some v ∧ Dp K F v y
theorem RepA.sub {v : V} : ∀ {r : U}, RepA K R F v r → Sub F F' → RepA K R F' v r
  | .d _, h, e => L2.Dp.subH h e
  | .own _, h, _ => h
  | .hold _, h, _ => h
  | .exc _ _ _, h, e => RepE.sub h e
theorem RepA.rg {R' : Rg} {v : V} : ∀ {r : U}, RepA K R F v r → R'.a = R.a → R'.HV = R.HV → RepA K R' F v r
  | .d _, h, _, _ => h
  | .own _, h, _, _ => h
  | .hold _, h, e1, e2 => by
    obtain ⟨a, h1, h2, h3⟩ := h
    exact ⟨a, h1, e1.trans h2, e2.trans h3⟩
  | .exc _ _ _, h, _, _ => h
theorem RepR.rg {R' : Rg} {v : V} : ∀ {r : U}, RepR K R H F' H' v r → R'.a = R.a → R'.HV = R.HV → RepR K R' H F' H' v r
  | .d _, h, _, _ => h
  | .own _, h, e1, _ => by
    obtain ⟨p, xs, h1, h2, h3, h4, h5, h6⟩ := h
    exact ⟨p, xs, h1, h2, h3, h4, h5, by rw [e1]; exact h6⟩
  | .hold _, h, e1, e2 => by
    obtain ⟨a, h1, h2, h3⟩ := h
    exact ⟨a, h1, e1.trans h2, e2.trans h3⟩
  | .exc _ _ _, h, _, _ => h
/-- a result is taken as data: it is frozen -/
theorem RepR.frz {v : V} {r : U} {k : D → Prop} (g : Gr K R F H F' H') (h : RepR K R H F' H' v r) (q : onD r k) : ∃ F'' x, Gr K R F H F'' H' ∧ Dp K F'' v x ∧ k x := by
  cases r with
  | d x => exact ⟨F', x, g, h, q⟩
  | hold V => exact q.elim
  | exc a dd fs => exact q.elim
  | own l =>
    obtain ⟨p, xs, rfl, h1, h2, h3, h4, h5⟩ := h
    have s : Sub F' (upd F' p (.lst xs)) := Sub.new h3
    refine ⟨upd F' p (.lst xs), .list l, ⟨g.ex.trans s, g.keep, fun b o e => ?_, g.ok.freeze h1 h3 h5⟩, .lst (.inl (.inl upd_same)) (h2.subH s), q⟩
    by_cases hb : b = p
    · subst hb; exact .inr h4
    · rw [upd_ne hb] at e; exact g.new b o e
end

/-! ### readings of data, and when a reading of the hand layer keeps one -/
abbrev UE := Sl → (U → Prop) → (Ex → Prop) → Prop
abbrev UT := Sl → (Bool → Prop) → (Ex → Prop) → Prop
abbrev UA := Sl → (List U → Prop) → (Ex → Prop) → Prop
structure RepD (K : Fr) (R : Rg) (F : Hp) (σ : St) (s : Sl) : Prop where
  len : σ.length = s.length
  get : ∀ (i : Nat) (r : U), s[i]? = some (some r) → ∃ v, σ[i]? = some (some v) ∧ RepA K R F v r
theorem RepD.sub {K : Fr} {R : Rg} {F F' : Hp} {σ : St} {s : Sl} (h : RepD K R F σ s) (e : Sub F F') : RepD K R F' σ s := ⟨h.len, fun i r q => by
  obtain ⟨v, h1, h2⟩ := h.get i r q
  exact ⟨v, h1, h2.sub e⟩⟩
/-- the way out by an exception -/
def Out (K : Fr) (W : WX) (R : Rg) (F H : Hp) (σ : St) (PX : Ex → Prop) : Prop := ∀ cls d x F' H', Gr K R F H F' H' → RepX K F' cls d x → PX x → W cls d σ H'
theorem Out.step {K : Fr} {W : WX} {R : Rg} {F H F' H' : Hp} {σ : St} {PX : Ex → Prop} (o : Out K W R F H σ PX) (g : Gr K R F H F' H') : Out K W R F' H' σ PX :=
  fun cls d x F2 H2 g2 => o cls d x F2 H2 (g.trans g2)
def SndE (K : Fr) (W : WX) (t : TE) (u : UE) : Prop := ∀ (R : Rg) (F H : Hp) (σ : St) (s : Sl) (P : U → Prop) (PX : Ex → Prop) (Q : VK), RepD K R F σ s → Ok K R F H → u s P PX →
  (∀ v r F' H', Gr K R F H F' H' → RepR K R H F' H' v r → P r → Q v H') → Out K W R F H σ PX → t σ H Q
def SndT (K : Fr) (W : WX) (t : TT) (u : UT) : Prop := ∀ (R : Rg) (F H : Hp) (σ : St) (s : Sl) (P : Bool → Prop) (PX : Ex → Prop) (Q : Bool → Hp → Prop), RepD K R F σ s → Ok K R F H → u s P PX →
  (∀ b F' H', Gr K R F H F' H' → P b → Q b H') → Out K W R F H σ PX → t σ H Q
/-- arguments: data is frozen -/
def RepAs (K : Fr) (R : Rg) (F : Hp) : List V → List U → Prop
  | [], [] => True
  | v :: vs, r :: rs => RepA K R F v r ∧ RepAs K R F vs rs
  | _, _ => False
def SndA (K : Fr) (W : WX) (t : TA) (u : UA) : Prop := ∀ (R : Rg) (F H : Hp) (σ : St) (s : Sl) (P : List U → Prop) (PX : Ex → Prop) (Q : List V → Hp → Prop), RepD K R F σ s → Ok K R F H → u s P PX →
  (∀ vs rs F' H', Gr K R F H F' H' → RepAs K R F' vs rs → P rs → Q vs H') → Out K W R F H σ PX → t σ H Q
theorem RepAs.sub {K : Fr} {R : Rg} {F F' : Hp} (e : Sub F F') : ∀ {vs : List V} {rs : List U}, RepAs K R F vs rs → RepAs K R F' vs rs
  | [], [], _ => trivial
  | _ :: _, _ :: _, h => ⟨h.1.sub e, RepAs.sub e h.2⟩
  | [], _ :: _, h => h.elim
  | _ :: _, [], h => h.elim
structure DE (X : Cx) (W : WX) (e : Expr) (t : TE) (u : UE) : Prop where
  pe : PE X e t
  snd : SndE X.K W t u
structure DT (X : Cx) (W : WX) (e : Expr) (t : TT) (u : UT) : Prop where
  pt : PT X e t
  snd : SndT X.K W t u
structure DA (X : Cx) (W : WX) (es : List Expr) (t : TA) (u : UA) : Prop where
  pa : PA X es t
  snd : SndA X.K W t u
/-- an expression taken as data -/
theorem SndE.dat {K : Fr} {W : WX} {t : TE} {u : UE} (h : SndE K W t u) {R : Rg} {F H : Hp} {σ : St} {s : Sl} {k : D → Prop} {PX : Ex → Prop} {Q : VK} (rd : RepD K R F σ s) (ok : Ok K R F H) (q : u s (fun r => onD r k) PX)
    (c : ∀ v x F' H', Gr K R F H F' H' → Dp K F' v x → k x → Q v H') (o : Out K W R F H σ PX) : t σ H Q :=
  h R F H σ s _ PX Q rd ok q (fun v r F' H' g rep p => by
    obtain ⟨F2, x, g2, d2, k2⟩ := rep.frz g p
    exact c v x F2 H' g2 d2 k2) o
end Pl

namespace Pl
open PySem L2
section
variable {X : Cx} {W : WX} {e a b c : Expr} {ta tb tc te : TE} {ua ub uc u : UE} {pos : Pos}
/-! ### names, constants -/
def uVar (i : Nat) : UE := fun s P _ => match s[i]? with
  | some (some (.d x)) => P (.d x)
  | some (some (.hold V)) => P (.hold V)
  | _ => False
theorem snd_var {K : Fr} {i : Nat} : SndE K W (tVar i) (uVar i) := by
  intro R F H σ s P PX Q rd ok h c o
  unfold uVar at h
  split at h
  · next x hx =>
    obtain ⟨v, h1, h2⟩ := rd.get i _ hx
    exact ⟨v, h1, c v (.d x) F H ok.refl h2 h⟩
  · next V hx =>
    obtain ⟨v, h1, h2⟩ := rd.get i _ hx
    exact ⟨v, h1, c v (.hold V) F H ok.refl h2 h⟩
  · exact h.elim
theorem dv {x : Str} (i : Nat) (hN : X.N[i]? = some x := by rfl) (hv : Vis X.env.scope x := by first | exact .inl rfl | exact .inr (.inl rfl) | exact .inr (.inr rfl))
    (hd : (x == ("__debug__" : Str)) = false := by decide) (hcd : (x == ("__classdict__" : Str)) = false := by decide) : DE X W (.Name x pos) (tVar i) (uVar i) := ⟨pe_var hN hv hd hcd, snd_var⟩
def uC (x : D) : UE := fun _ P _ => P (.d x)
theorem snd_c {K : Fr} {v : V} {x : D} (h : ∀ F, Dp K F v x) : SndE K W (tC v) (uC x) := fun R F H σ s P PX Q rd ok p c o => c v (.d x) F H ok.refl (h F) p
theorem de_int {i : Int} {j} : DE X W (.Constant (.int i) j pos) (tC (.int i)) (uC (.int i)) := ⟨pe_int, snd_c fun _ => .int i⟩
theorem de_bl {k : Bool} {j} : DE X W (.Constant (.bool k) j pos) (tC (.bl k)) (uC (.bool k)) := ⟨pe_bl, snd_c fun _ => .bl k⟩
theorem de_non {j} : DE X W (.Constant .none j pos) (tC .non) (uC .none) := ⟨pe_non, snd_c fun _ => .non⟩
theorem de_str {x : Str} {j} : DE X W (.Constant (.str x) j pos) (tC (.str x)) (uC (.str x)) := ⟨pe_str, snd_c fun _ => .str x⟩

/-! ### operators by values -/
abbrev Op2 := D → D → (U → Prop) → Prop
abbrev Op1 := D → (U → Prop) → Prop
def SndR (K : Fr) (r : R2) (o : Op2) : Prop := ∀ (R : Rg) (F H : Hp) (x y : V) (dx dy : D) (P : U → Prop) (Q : VK), Ok K R F H → Dp K F x dx → Dp K F y dy → o dx dy P →
  (∀ v r F' H', Gr K R F H F' H' → RepR K R H F' H' v r → P r → Q v H') → r x y H Q
def SndU (K : Fr) (r : V → Hp → VK → Prop) (o : Op1) : Prop := ∀ (R : Rg) (F H : Hp) (x : V) (dx : D) (P : U → Prop) (Q : VK), Ok K R F H → Dp K F x dx → o dx P →
  (∀ v r F' H', Gr K R F H F' H' → RepR K R H F' H' v r → P r → Q v H') → r x H Q
def uOp (o : Op2) (ua ub : UE) : UE := fun s P PX => ua s (fun r => onD r fun x => ub s (fun r' => onD r' fun y => o x y P) PX) PX
def uUn (o : Op1) (ua : UE) : UE := fun s P PX => ua s (fun r => onD r fun x => o x P) PX
theorem RepR.back {K : Fr} {R : Rg} {F H F1 H1 F' H' : Hp} {v : V} : ∀ {r : U}, Gr K R F H F1 H1 → RepR K R H1 F' H' v r → RepR K R H F' H' v r
  | .d _, _, h => h
  | .hold _, _, h => h
  | .exc _ _ _, _, h => h
  | .own l, g, h => by
    obtain ⟨p, xs, h1, h2, h3, h4, h5, h6⟩ := h
    refine ⟨p, xs, h1, h2, h3, h4, ?_, h6⟩
    cases e : H p with
    | none => rfl
    | some o => rw [g.keep p o h6 e] at h5; cases h5
theorem snd_op {K : Fr} {r : R2} {o : Op2} (hr : SndR K r o) (ha : SndE K W ta ua) (hb : SndE K W tb ub) : SndE K W (tOp r ta tb) (uOp o ua ub) := by
  intro R F H σ s P PX Q rd ok h c out
  refine ha.dat rd ok h (fun v x F1 H1 g1 d1 h1 => ?_) out
  refine hb.dat (rd.sub g1.ex) g1.ok h1 (fun w y F2 H2 g2 d2 h2 => ?_) (out.step g1)
  exact hr R F2 H2 v w x y P Q g2.ok (d1.subH g2.ex) d2 h2 fun z r F3 H3 g3 rep p => c z r F3 H3 ((g1.trans g2).trans g3) (rep.back (g1.trans g2)) p
theorem snd_un {K : Fr} {r : V → Hp → VK → Prop} {o : Op1} (hr : SndU K r o) (ha : SndE K W ta ua) : SndE K W (tUn r ta) (uUn o ua) := by
  intro R F H σ s P PX Q rd ok h c out
  refine ha.dat rd ok h (fun v x F1 H1 g1 d1 h1 => ?_) out
  exact hr R F1 H1 v x P Q g1.ok d1 h1 fun z r F3 H3 g3 rep p => c z r F3 H3 (g1.trans g3) (rep.back g1) p
/-- an operator's rule and what it does to data -/
structure DO (X : Cx) (f : Value → Value → Sem Value) (r : R2) (o : Op2) : Prop where
  op : OpR X f r
  snd : SndR X.K r o
structure DU (X : Cx) (f : Value → Sem Value) (r : V → Hp → VK → Prop) (o : Op1) : Prop where
  op : UnR X f r
  snd : SndU X.K r o
theorem de_op {op : Operator} {r : R2} {o : Op2} (h : DO X (binaryOp op) r o) (ha : DE X W a ta ua) (hb : DE X W b tb ub) : DE X W (.BinOp a op b pos) (tOp r ta tb) (uOp o ua ub) := ⟨pe_op h.op ha.pe hb.pe, snd_op h.snd ha.snd hb.snd⟩
theorem de_un {op : UnaryOp} {r : V → Hp → VK → Prop} {o : Op1} (h : DU X (unaryOp op) r o) (ha : DE X W a ta ua) : DE X W (.UnaryOp op a pos) (tUn r ta) (uUn o ua) := ⟨pe_un h.op ha.pe, snd_un h.snd ha.snd⟩
theorem de_cmp {op : CmpOp} {r : R2} {o : Op2} (h : DO X (compareOp op) r o) (ha : DE X W a ta ua) (hb : DE X W b tb ub) (hm : behindInMarks op b = false := by first | exact nomark _ | rfl) : DE X W (.Compare a [op] [b] pos) (tOp r ta tb) (uOp o ua ub) :=
  ⟨pe_cmpR h.op ha.pe hb.pe hm, snd_op h.snd ha.snd hb.snd⟩
/-- one rule or the other -/
def rOr (r r' : R2) : R2 := fun x y H Q => r x y H Q ∨ r' x y H Q
theorem opOr {f : Value → Value → Sem Value} {r r' : R2} (h : OpR X f r) (h' : OpR X f r') : OpR X f (rOr r r') := fun pins s σ H x y v u Q I rx ry q => q.elim (fun q => h pins s σ H x y v u Q I rx ry q) fun q => h' pins s σ H x y v u Q I rx ry q

def iP (k : D → D → (U → Prop) → Prop) : Op2 := k
/-! #### ints -/
def oI (g : Int → Int → D) : Op2 := fun x y P => match x, y with
  | .int i, .int j => P (.d (g i j))
  | _, _ => False
def oIC (C : Int → Int → Prop) (g : Int → Int → D) : Op2 := fun x y P => match x, y with
  | .int i, .int j => C i j ∧ P (.d (g i j))
  | _, _ => False
theorem sr_I {K : Fr} {g : Int → Int → V} {g' : Int → Int → D} (hg : ∀ F i j, Dp K F (g i j) (g' i j)) : SndR K (rI0 g) (oI g') := by
  intro R F H x y dx dy P Q ok h1 h2 h c
  cases h1 <;> cases h2 <;> first | exact h.elim | skip
  exact ⟨_, _, rfl, rfl, c _ (.d _) F H ok.refl (hg F _ _) h⟩
theorem sr_IC {K : Fr} {C C' : Int → Int → Prop} {g : Int → Int → V} {g' : Int → Int → D} (hC : ∀ i j, C' i j → C i j) (hg : ∀ F i j, C' i j → Dp K F (g i j) (g' i j)) : SndR K (rI C g) (oIC C' g') := by
  intro R F H x y dx dy P Q ok h1 h2 h c
  cases h1 <;> cases h2 <;> first | exact h.elim | skip
  exact ⟨_, _, rfl, rfl, hC _ _ h.1, c _ (.d _) F H ok.refl (hg F _ _ h.1) h.2⟩
theorem do_sub : DO X (binaryOp .Sub) (rI0 fun i j => .int (i - j)) (oI fun i j => .int (i - j)) := ⟨op_sub, sr_I fun _ _ _ => .int _⟩
theorem do_lt : DO X (compareOp .Lt) (rI0 fun i j => .bl (decide (i < j))) (oI fun i j => .bool (decide (i < j))) := ⟨op_lt, sr_I fun _ _ _ => .bl _⟩
theorem do_le : DO X (compareOp .LtE) (rI0 fun i j => .bl (decide (i ≤ j))) (oI fun i j => .bool (decide (i ≤ j))) := ⟨op_le, sr_I fun _ _ _ => .bl _⟩
theorem do_gt : DO X (compareOp .Gt) (rI0 fun i j => .bl (decide (j < i))) (oI fun i j => .bool (decide (j < i))) := ⟨op_gt, sr_I fun _ _ _ => .bl _⟩
theorem do_ge : DO X (compareOp .GtE) (rI0 fun i j => .bl (decide (j ≤ i))) (oI fun i j => .bool (decide (j ≤ i))) := ⟨op_ge, sr_I fun _ _ _ => .bl _⟩
/-- by a divisor that is positive -/
theorem do_mod : DO X (binaryOp .Mod) (rI (fun _ j => 0 < j) fun i j => .int (i % j)) (oIC (fun _ j => 0 < j) fun i j => .int (i % j)) := ⟨op_mod, sr_IC (fun _ _ h => h) fun _ _ _ _ => .int _⟩
theorem do_fdiv : DO X (binaryOp .FloorDiv) (rI CDivW fun i j => .int (i / j)) (oIC CDivW fun i j => .int (i / j)) := ⟨op_fdivW, sr_IC (fun _ _ h => h) fun _ _ _ _ => .int _⟩
theorem do_pow : DO X (binaryOp .Pow) (rI CPow fun i j => .int (i ^ j.toNat)) (oIC CPow fun i j => .int (i ^ j.toNat)) := ⟨op_pow, sr_IC (fun _ _ h => h) fun _ _ _ _ => .int _⟩
theorem do_bor : DO X (binaryOp .BitOr) (rI0 fun i j => .int (Builtin.bitOr i j)) (oI fun i j => .int (Builtin.bitOr i j)) := ⟨op_or, sr_I fun _ _ _ => .int _⟩
theorem do_band : DO X (binaryOp .BitAnd) (rI0 fun i j => .int (Builtin.bitAnd i j)) (oI fun i j => .int (Builtin.bitAnd i j)) := ⟨op_and, sr_I fun _ _ _ => .int _⟩
theorem do_shl : DO X (binaryOp .LShift) (rI CPow fun i j => .int (i * 2 ^ j.toNat)) (oIC CPow fun i j => .int (i * 2 ^ j.toNat)) := ⟨op_shl, sr_IC (fun _ _ h => h) fun _ _ _ _ => .int _⟩
theorem do_shr : DO X (binaryOp .RShift) (rI (fun _ j => 0 ≤ j) fun i j => .int (i / 2 ^ j.toNat)) (oIC (fun _ j => 0 ≤ j) fun i j => .int (i / 2 ^ j.toNat)) := ⟨op_shr, sr_IC (fun _ _ h => h) fun _ _ _ _ => .int _⟩
theorem du_neg : DU X (unaryOp .USub) (rU fun i => .int (-i)) (fun x P => match x with | .int i => P (.d (.int (-i))) | _ => False) := ⟨un_neg, by
  intro R F H x dx P Q ok h1 h c
  cases h1 <;> first | exact h.elim | skip
  exact ⟨_, rfl, c _ (.d _) F H ok.refl (.int _) h⟩⟩

/-! #### products: one factor within 2^64, or both together below a million bits -/
def CMulA (i j : Int) : Prop := CMul i j ∨ CMulW i j
theorem op_mulA : OpR X (binaryOp .Mult) (rI CMulA fun i j => .int (i * j)) := fun pins s σ H x y v u Q I rx ry q => by
  obtain ⟨i, j, e1, e2, hc, q⟩ := q
  rcases hc with hc | hc
  · exact op_mul pins s σ H x y v u Q I rx ry ⟨i, j, e1, e2, hc, q⟩
  · exact op_mulW pins s σ H x y v u Q I rx ry ⟨i, j, e1, e2, hc, q⟩
theorem do_mul : DO X (binaryOp .Mult) (rI CMulA fun i j => .int (i * j)) (oIC CMulA fun i j => .int (i * j)) := ⟨op_mulA, sr_IC (fun _ _ h => h) fun _ _ _ _ => .int _⟩

/-! #### + of ints, texts, tuples, lists -/
def rCatG (K : Fr) : R2 := fun x y H Q => ∃ a b xs ys, x = .ref a ∧ y = .ref b ∧ SqL K H a xs ∧ SqL K H b ys ∧ xs.length + ys.length ≤ sizeLine ∧ ∀ p, H p = none → Q (.ref p) (upd H p (.lst (xs ++ ys)))
theorem op_catG : OpR X (binaryOp .Add) (rCatG X.K) := by
  intro pins s σ H x y v u Q I rx ry h
  obtain ⟨a, b, xs, ys, rfl, rfl, ha, hb, hz, q⟩ := h
  cases rx
  cases ry
  obtain ⟨its, r1, ⟨⟨cls, dd, data, sl⟩, n, ho, hc, hdd, hd⟩, _⟩ := I.list ha
  obtain ⟨its2, r2, ⟨⟨cls2, dd2, data2, sl2⟩, n2, ho2, hc2, hdd2, hd2⟩, _⟩ := I.list hb
  simp only at hc hdd hd hc2 hdd2 hd2
  subst hc hdd hd hc2 hdd2 hd2
  have e : its.toArray ++ its2.toArray = (its ++ its2).toArray := by simp
  have l1 := r1.length
  have l2 := r2.length
  refine PySem.concat_meets ⟨_, ho, rfl⟩ ⟨_, ho2, rfl⟩ PySem.noFill_list_add PySem.seq_list_add PySem.F.slot_list_add PySem.F.entry_list_add (PySem.F.args_list_add_2 _ _)
    (PyProof.Rows.list_addW a b its.toArray its2.toArray n n2 _ _ sl sl2 (by rw [List.size_toArray, List.size_toArray]; omega)) ⟨ho, ho2, ?_⟩
  rw [e]
  exact ⟨.ref _, _, I.lnew (t' := s.toks) (r1.append r2) (by rw [List.length_append]; omega), rfl, q _ I.fresh⟩
def rAddS : R2 := fun x y H Q => ∃ i j, x = .str i ∧ y = .str j ∧ i.length + j.length ≤ sizeLine ∧ Q (.str (i ++ j)) H
def rAddG (K : Fr) : R2 := rOr (rI0 fun i j => .int (i + j)) (rOr rAddS (rOr (rCatA K) (rCatG K)))
def oAdd : Op2 := fun x y P => match x, y with
  | .int i, .int j => P (.d (.int (i + j)))
  | .str i, .str j => i.length + j.length ≤ sizeLine ∧ P (.d (.str (i ++ j)))
  | .tuple l, .tuple m => l.length + m.length ≤ sizeLine ∧ P (.d (.tuple (l ++ m)))
  | .list l, .list m => l.length + m.length ≤ sizeLine ∧ P (.own (l ++ m))
  | _, _ => False
theorem DpAll.nil_of {K : Fr} {F : Hp} {l : List D} (h : DpAll K F [] l) : l = [] := by cases h; rfl
theorem do_add : DO X (binaryOp .Add) (rAddG X.K) oAdd := by
  refine ⟨opOr op_add (opOr op_add_str (opOr op_catA op_catG)), ?_⟩
  intro R F H x y dx dy P Q ok h1 h2 h c
  cases h1 <;> cases h2 <;> first | exact h.elim | skip
  · exact .inl ⟨_, _, rfl, rfl, c _ (.d (.int _)) F H ok.refl (.int _) h⟩
  · exact .inr (.inl ⟨_, _, rfl, rfl, h.1, c _ (.d (.str _)) F H ok.refl (.str _) h.2⟩)
  · next a xs l hs ha b ys m hb hc =>
    refine .inr (.inr (.inr ⟨a, b, xs, ys, rfl, rfl, ok.sub.l hs, ok.sub.l hb, by rw [ha.lengthH, hc.lengthH]; exact h.1, fun p hp => ?_⟩))
    have g := ok.lay (o := .lst (xs ++ ys)) hp
    refine c _ (.own (l ++ m)) F _ g ⟨p, _, rfl, upd_same, ha.appendH hc, ?_, hp, fun z => ?_⟩ h.2
    · cases e : F p with
      | none => rfl
      | some u => rw [ok.sub p u e] at hp; cases hp
    · obtain ⟨_, _, _, e, _⟩ := ok.inv p z
      rw [hp] at e; cases e
  · next a xs l hs ha b ys m hb hc =>
    refine .inr (.inr (.inl ⟨a, b, xs, ys, rfl, rfl, ok.sub.t hs, ok.sub.t hb, by rw [ha.lengthH, hc.lengthH]; exact h.1, fun e => ?_, fun _ e => ?_, fun _ _ p hp => ?_⟩))
    · subst e
      have e2 : l = [] := DpAll.nil_of ha
      subst e2
      exact c _ (.d (.tuple m)) F H ok.refl (.tup hb hc) (by simpa using h.2)
    · subst e
      have e2 : m = [] := DpAll.nil_of hc
      subst e2
      exact c _ (.d (.tuple l)) F H ok.refl (.tup hs ha) (by simpa using h.2)
    · have g := ok.frz (o := .tup (xs ++ ys)) hp
      exact c _ (.d (.tuple (l ++ m))) _ _ g (.tup (.inl (.inl upd_same)) ((ha.appendH hc).subH g.ex)) h.2

/-! #### == and its like, of data -/
def oEq (neg : Bool) : Op2 := fun x y P => SeqAt.shaped x = true ∧ SeqAt.shaped y = true ∧ P (.d (.bool (if neg then !PyData.eqv x y else PyData.eqv x y)))
theorem do_eq (hu : X.A.units + 64 < cLine) : DO X (compareOp .Eq) (rEqD X.K) (oEq false) := by
  refine ⟨op_eqD hu, ?_⟩
  intro R F H x y dx dy P Q ok h1 h2 h c
  exact ⟨dx, dy, h1.subH ok.sub, h2.subH ok.sub, h.1, h.2.1, c _ (.d (.bool _)) F H ok.refl (.bl _) h.2.2⟩
theorem do_ne (hu : X.A.units + 64 < cLine) : DO X (compareOp .NotEq) (rNeD X.K) (oEq true) := by
  refine ⟨op_neD hu, ?_⟩
  intro R F H x y dx dy P Q ok h1 h2 h c
  exact ⟨dx, dy, h1.subH ok.sub, h2.subH ok.sub, h.1, h.2.1, c _ (.d (.bool _)) F H ok.refl (.bl _) h.2.2⟩
/-- is None -/
def isN : D → Bool
  | .none => true
  | _ => false
def oIsN (neg : Bool) : Op2 := fun x y P => match y with
  | .none => P (.d (.bool (if neg then !isN x else isN x)))
  | _ => False
theorem dec_isN {K : Fr} {F : Hp} {v : V} {x : D} (h : Dp K F v x) : decide (v = .non) = isN x := by
  cases h <;> simp [isN]
theorem do_isN : DO X (compareOp .Is) (fun x y H Q => y = .non ∧ Q (.bl (decide (x = .non))) H) (oIsN false) := by
  refine ⟨op_isN, ?_⟩
  intro R F H x y dx dy P Q ok h1 h2 h c
  cases h2 <;> first | exact h.elim | skip
  refine ⟨rfl, ?_⟩
  rw [dec_isN h1]
  exact c _ (.d (.bool _)) F H ok.refl (.bl _) h
theorem do_notN : DO X (compareOp .IsNot) (fun x y H Q => y = .non ∧ Q (.bl (!decide (x = .non))) H) (oIsN true) := by
  refine ⟨op_notN, ?_⟩
  intro R F H x y dx dy P Q ok h1 h2 h c
  cases h2 <;> first | exact h.elim | skip
  refine ⟨rfl, ?_⟩
  rw [dec_isN h1]
  exact c _ (.d (.bool _)) F H ok.refl (.bl _) h

/-! ### truth -/
def truD : D → Bool
  | .none => false
  | .bool b => b
  | .int i => i != 0
  | .str y => (y.length : Int) != 0
  | .list l => !l.isEmpty
  | .tuple l => !l.isEmpty
  | .dict _ => false
def szD : D → Prop
  | .str y => y.length ≤ sizeLine
  | _ => True
theorem tru_of {K : Fr} {F H : Hp} {v : V} {x : D} (s : Sub F H) (h : Dp K F v x) (z : szD x) : TruV K v H (truD x) := by
  cases h with
  | non => rfl
  | bl b => rfl
  | int i => rfl
  | str y => exact ⟨z, rfl⟩
  | @lst a xs l hs ha => exact .inl ⟨xs, s.l hs, by have := ha.lengthH; cases xs <;> cases l <;> simp_all [truD]⟩
  | @tup a xs l hs ha => exact .inr (.inl ⟨xs, s.t hs, by have := ha.lengthH; cases xs <;> cases l <;> simp_all [truD]⟩)
/-- what follows a result by its truth -/
def onT (r : U) (k : Bool → Prop) : Prop := onD r fun x => szD x ∧ k (truD x)
def uTru (u : UE) : UT := fun s P PX => u s (fun r => onT r P) PX
theorem dt_tru (ha : DE X W a ta ua) (he : ∀ whole, isTrue a X.env whole = (do let v ← whole; standAt a.pos; holding [v] (truthy v)) := by intro _; rfl) : DT X W a (fun σ H Q => ta σ H fun x H' => ∃ k, TruV X.K x H' k ∧ Q k H') (uTru ua) := by
  refine ⟨pt_truth ha.pe he, ?_⟩
  intro R F H σ s P PX Q rd ok h c o
  refine ha.snd.dat rd ok h (fun v x F1 H1 g d q => ⟨_, tru_of g.ok.sub d q.1, c _ F1 H1 g q.2⟩) o
def uNot (t : UT) : UT := fun s P PX => t s (fun b => P (!b)) PX
theorem dt_not {t : TT} {u : UT} (h : DT X W a t u) : DT X W (.UnaryOp .Not a pos) (tNot t) (uNot u) :=
  ⟨pt_not h.pt, fun R F H σ s P PX Q rd ok q c o => h.snd R F H σ s _ PX _ rd ok q (fun b F1 H1 g p => c (!b) F1 H1 g p) o⟩
/-- a test that is part of and, or -/
structure DW (X : Cx) (W : WX) (e : Expr) (t : TT) (u : UT) : Prop where
  pw : PW X e t
  snd : SndT X.K W t u
theorem DW.dt {t : TT} {u : UT} (h : DW X W e t u) : DT X W e t u := ⟨h.pw.pt, h.snd⟩
def uAnd (t u : UT) : UT := fun s P PX => t s (fun b => if b = true then u s P PX else P false) PX
def uOr (t u : UT) : UT := fun s P PX => t s (fun b => if b = true then P true else u s P PX) PX
theorem snd_and {K : Fr} {t t' : TT} {u u' : UT} (h : SndT K W t u) (h' : SndT K W t' u') : SndT K W (tAnd t t') (uAnd u u') := fun R F H σ s P PX Q rd ok q c o =>
  h R F H σ s _ PX _ rd ok q (fun b F1 H1 g p => by
    cases b with
    | true => exact h' R F1 H1 σ s P PX Q (rd.sub g.ex) g.ok p (fun b2 F2 H2 g2 p2 => c b2 F2 H2 (g.trans g2) p2) (o.step g)
    | false => exact c false F1 H1 g p) o
theorem snd_or {K : Fr} {t t' : TT} {u u' : UT} (h : SndT K W t u) (h' : SndT K W t' u') : SndT K W (tOr t t') (uOr u u') := fun R F H σ s P PX Q rd ok q c o =>
  h R F H σ s _ PX _ rd ok q (fun b F1 H1 g p => by
    cases b with
    | false => exact h' R F1 H1 σ s P PX Q (rd.sub g.ex) g.ok p (fun b2 F2 H2 g2 p2 => c b2 F2 H2 (g.trans g2) p2) (o.step g)
    | true => exact c true F1 H1 g p) o
theorem dw_and {t t' : TT} {u u' : UT} {rest : List Expr} (h : DT X W a t u) (h' : DW X W (.BoolOp .And (b :: rest) pos) t' u') : DW X W (.BoolOp .And (a :: b :: rest) pos) (tAnd t t') (uAnd u u') := ⟨pw_and h.pt h'.pw, snd_and h.snd h'.snd⟩
theorem dw_and1 {t : TT} {u : UT} (h : DT X W a t u) : DW X W (.BoolOp .And [a] pos) t u := ⟨pw_and1 h.pt, h.snd⟩
theorem dw_or {t t' : TT} {u u' : UT} {rest : List Expr} (h : DT X W a t u) (h' : DW X W (.BoolOp .Or (b :: rest) pos) t' u') : DW X W (.BoolOp .Or (a :: b :: rest) pos) (tOr t t') (uOr u u') := ⟨pw_or h.pt h'.pw, snd_or h.snd h'.snd⟩
theorem dw_or1 {t : TT} {u : UT} (h : DT X W a t u) : DW X W (.BoolOp .Or [a] pos) t u := ⟨pw_or1 h.pt, h.snd⟩
/-! ### and, or, not as values -/
def uAndV (ua ub : UE) : UE := fun s P PX => ua s (fun r => onD r fun x => szD x ∧ if truD x = true then ub s P PX else P (.d x)) PX
def uOrV (ua ub : UE) : UE := fun s P PX => ua s (fun r => onD r fun x => szD x ∧ if truD x = true then P (.d x) else ub s P PX) PX
def uNotV (ua : UE) : UE := fun s P PX => ua s (fun r => onD r fun x => szD x ∧ P (.d (.bool (!truD x)))) PX
theorem de_and {rest : List Expr} (h : DE X W a ta ua) (h' : DE X W (.BoolOp .And (b :: rest) pos) tb ub) : DE X W (.BoolOp .And (a :: b :: rest) pos) (tAndT X.K ta tb) (uAndV ua ub) := by
  refine ⟨pe_andT h.pe h'.pe, fun R F H σ s P PX Q rd ok q c o => ?_⟩
  refine h.snd.dat rd ok q (fun v x F1 H1 g d q => ⟨_, tru_of g.ok.sub d q.1, ?_⟩) o
  have q2 := q.2
  by_cases e : truD x = true
  · rw [if_pos e] at q2 ⊢
    exact h'.snd R F1 H1 σ s P PX Q (rd.sub g.ex) g.ok q2 (fun v r F2 H2 g2 rep p => c v r F2 H2 (g.trans g2) (rep.back g) p) (o.step g)
  · rw [if_neg e] at q2 ⊢
    exact c v (.d x) F1 H1 g d q2
theorem de_or {rest : List Expr} (h : DE X W a ta ua) (h' : DE X W (.BoolOp .Or (b :: rest) pos) tb ub) : DE X W (.BoolOp .Or (a :: b :: rest) pos) (tOrT X.K ta tb) (uOrV ua ub) := by
  refine ⟨pe_orT h.pe h'.pe, fun R F H σ s P PX Q rd ok q c o => ?_⟩
  refine h.snd.dat rd ok q (fun v x F1 H1 g d q => ⟨_, tru_of g.ok.sub d q.1, ?_⟩) o
  have q2 := q.2
  by_cases e : truD x = true
  · rw [if_pos e] at q2 ⊢
    exact c v (.d x) F1 H1 g d q2
  · rw [if_neg e] at q2 ⊢
    exact h'.snd R F1 H1 σ s P PX Q (rd.sub g.ex) g.ok q2 (fun v r F2 H2 g2 rep p => c v r F2 H2 (g.trans g2) (rep.back g) p) (o.step g)
theorem de_one {op : BoolOp} (h : DE X W a ta ua) : DE X W (.BoolOp op [a] pos) ta ua := ⟨pe_one h.pe, h.snd⟩
theorem de_not (h : DE X W a ta ua) : DE X W (.UnaryOp .Not a pos) (tNotT X.K ta) (uNotV ua) := by
  refine ⟨pe_notT h.pe, fun R F H σ s P PX Q rd ok q c o => ?_⟩
  exact h.snd.dat rd ok q (fun v x F1 H1 g d q => ⟨_, tru_of g.ok.sub d q.1, c _ (.d (.bool _)) F1 H1 g (.bl _) q.2⟩) o
def uIf (t : UT) (ua ub : UE) : UE := fun s P PX => t s (fun k => if k = true then ua s P PX else ub s P PX) PX
theorem de_if {t : TT} {u : UT} (h : DT X W c t u) (ha : DE X W a ta ua) (hb : DE X W b tb ub) : DE X W (.IfExp c a b pos) (tIf t ta tb) (uIf u ua ub) := by
  refine ⟨pe_ifExp h.pt ha.pe hb.pe, fun R F H σ s P PX Q rd ok q k o => h.snd R F H σ s _ PX _ rd ok q (fun z F1 H1 g p => ?_) o⟩
  cases z with
  | true => exact ha.snd R F1 H1 σ s P PX Q (rd.sub g.ex) g.ok p (fun v r F2 H2 g2 rep p => k v r F2 H2 (g.trans g2) (rep.back g) p) (o.step g)
  | false => exact hb.snd R F1 H1 σ s P PX Q (rd.sub g.ex) g.ok p (fun v r F2 H2 g2 rep p => k v r F2 H2 (g.trans g2) (rep.back g) p) (o.step g)
end
end Pl

namespace Pl
open PySem L2
section
variable {X : Cx} {W : WX} {e a b c : Expr} {es : List Expr} {ta tb tc te : TE} {ua ub uc u : UE} {t : TA} {ut : UA} {pos p : Pos}
/-! ### argument lists and displays -/
def uNil : UA := fun _ P _ => P []
def argU : U → U
  | .d x => .d x
  | .own l => .d (.list l)
  | .hold V => .hold V
  | .exc a dd fs => .exc a dd fs
def uCons (u : UE) (us : UA) : UA := fun s P PX => u s (fun r => us s (fun rs => P (argU r :: rs)) PX) PX
theorem da_nil : DA X W [] tNil uNil := ⟨pa_nil, fun R F H σ s P PX Q rd ok q c o => c [] [] F H ok.refl trivial q⟩
theorem RepR.arg {K : Fr} {R : Rg} {F H F' H' : Hp} {v : V} {r : U} (g : Gr K R F H F' H') (h : RepR K R H F' H' v r) : ∃ F'', Gr K R F H F'' H' ∧ RepA K R F'' v (argU r) := by
  cases r with
  | d x => exact ⟨F', g, h⟩
  | hold V => exact ⟨F', g, h⟩
  | exc a dd fs => exact ⟨F', g, h⟩
  | own l =>
    obtain ⟨F2, x, g2, d2, e⟩ := RepR.frz (k := fun y => y = .list l) g h rfl
    subst e
    exact ⟨F2, g2, d2⟩
theorem da_cons (h : DE X W e te u) (hr : DA X W es t ut) (hs : starEach (e :: es) X.env = (false, eval e X.env) :: starEach es X.env := by rfl) : DA X W (e :: es) (tCons te t) (uCons u ut) := by
  refine ⟨pa_cons h.pe hr.pa hs, fun R F H σ s P PX Q rd ok q c o => ?_⟩
  refine h.snd R F H σ s _ PX _ rd ok q (fun v r F1 H1 g rep q1 => ?_) o
  obtain ⟨F2, g2, ra⟩ := rep.arg g
  refine hr.snd R F2 H1 σ s _ PX _ (rd.sub g2.ex) g2.ok q1 (fun vs rs F3 H3 g3 ras q3 => ?_) (o.step g2)
  exact c (v :: vs) (argU r :: rs) F3 H3 (g2.trans g3) ⟨ra.sub g3.ex, ras⟩ q3
/-- arguments that are data -/
def allD : List U → Option (List D)
  | [] => some []
  | .d x :: rs => (allD rs).map (x :: ·)
  | _ :: _ => none
def onDs (rs : List U) (k : List D → Prop) : Prop := match allD rs with
  | some l => k l
  | none => False
theorem RepAs.data {K : Fr} {R : Rg} {F : Hp} : ∀ {vs : List V} {rs : List U} {l : List D}, RepAs K R F vs rs → allD rs = some l → DpAll K F vs l
  | [], [], l, _, e => by cases e; exact .nil
  | v :: vs, .d x :: rs, l, h, e => by
    obtain ⟨l', e', rfl⟩ := Option.map_eq_some_iff.mp e
    exact .cons h.1 (RepAs.data h.2 e')
  | _ :: _, .own _ :: _, _, h, _ => h.1.elim
  | _ :: _, .hold _ :: _, _, _, e => by cases e
  | _ :: _, .exc _ _ _ :: _, _, _, e => by cases e
  | [], _ :: _, _, h, _ => h.elim
  | _ :: _, [], _, h, _ => h.elim
def uTup (ut : UA) : UE := fun s P PX => ut s (fun rs => onDs rs fun l => l.length ≤ sizeLine ∧ P (.d (.tuple l))) PX
def uLst (ut : UA) : UE := fun s P PX => ut s (fun rs => onDs rs fun l => l.length ≤ sizeLine ∧ P (.own l)) PX
theorem de_tup {x1} (h : DA X W es t ut) : DE X W (.Tuple es x1 pos) (tTup t) (uTup ut) := by
  refine ⟨pe_tup h.pa, fun R F H σ s P PX Q rd ok q c o => ?_⟩
  refine h.snd R F H σ s _ PX _ rd ok q (fun vs rs F1 H1 g ras q1 => ?_) o
  unfold onDs at q1
  split at q1
  · next l hl =>
    have d := ras.data hl
    refine ⟨by rw [d.lengthH]; exact q1.1, fun p hp => ?_⟩
    have g2 := g.ok.frz (o := .tup vs) hp
    exact c _ (.d (.tuple l)) _ _ (g.trans g2) (.tup (.inl (.inl upd_same)) (d.subH g2.ex)) q1.2
  · exact q1.elim
theorem Ok.own {K : Fr} {R : Rg} {F H : Hp} {p : Addr} {xs : List V} {l : List D} (ok : Ok K R F H) (hp : H p = none) (d : DpAll K F xs l) : Gr K R F H F (upd H p (.lst xs)) ∧ RepR K R H F (upd H p (.lst xs)) (.ref p) (.own l) := by
  refine ⟨ok.lay hp, p, xs, rfl, upd_same, d, ?_, hp, fun z => ?_⟩
  · cases e : F p with
    | none => rfl
    | some u => rw [ok.sub p u e] at hp; cases hp
  · obtain ⟨_, _, _, e, _⟩ := ok.inv p z
    rw [hp] at e; cases e
theorem de_lst (h : DA X W es t ut) : DE X W (.List es pos) (tLst t) (uLst ut) := by
  refine ⟨pe_lst h.pa, fun R F H σ s P PX Q rd ok q c o => ?_⟩
  refine h.snd R F H σ s _ PX _ rd ok q (fun vs rs F1 H1 g ras q1 => ?_) o
  unfold onDs at q1
  split at q1
  · next l hl =>
    have d := ras.data hl
    refine ⟨by rw [d.lengthH]; exact q1.1, fun p hp => ?_⟩
    obtain ⟨g2, rep⟩ := g.ok.own hp d
    exact c _ (.own l) _ _ (g.trans g2) (rep.back g) q1.2
  · exact q1.elim

/-! ### subscripts -/
def atD (l : List D) (i : Int) : Option D := atI l i
def oIx : Op2 := fun x y P => match y with
  | .int i => match x with
    | .list l => match atI l i with
      | some z => P (.d z)
      | none => False
    | .tuple l => match atI l i with
      | some z => P (.d z)
      | none => False
    | _ => False
  | _ => False
def rIxS2 (K : Fr) : R2 := rOr (rIxL K) (rIxT K)
theorem ixOr {r r' : R2} (h : IxR X r) (h' : IxR X r') : IxR X (rOr r r') := fun value slice pins s σ H x y v u Q I rx ry q => q.elim (fun q => h value slice pins s σ H x y v u Q I rx ry q) fun q => h' value slice pins s σ H x y v u Q I rx ry q
theorem DpAll.at_ {K : Fr} {F : Hp} {vs : List V} {l : List D} {i : Int} {z : D} (h : DpAll K F vs l) (e : atI l i = some z) : ∃ v, atI vs i = some v ∧ Dp K F v z := by
  unfold atI at e ⊢
  rw [h.lengthH]
  cases k : ixN l.length i with
  | none => rw [k] at e; cases e
  | some j =>
    rw [k] at e
    obtain ⟨v, h1, h2⟩ := h.getH (i := j) (show l[j]? = some z from e)
    exact ⟨v, h1, h2⟩
theorem snd_ix {K : Fr} : SndR K (rIxS2 K) oIx := by
  intro R F H x y dx dy P Q ok h1 h2 h c
  unfold oIx at h
  cases h2 with
  | int i =>
    cases h1 with
    | @lst a xs l hs ha =>
      dsimp only at h
      split at h
      · next z hz =>
        obtain ⟨v, e, d⟩ := DpAll.at_ ha hz
        exact .inl ⟨a, xs, i, v, rfl, rfl, ok.sub.l hs, e, c v (.d z) F H ok.refl d h⟩
      · exact h.elim
    | @tup a xs l hs ha =>
      dsimp only at h
      split at h
      · next z hz =>
        obtain ⟨v, e, d⟩ := DpAll.at_ ha hz
        exact .inr ⟨a, xs, i, v, rfl, rfl, ok.sub.t hs, e, c v (.d z) F H ok.refl d h⟩
      · exact h.elim
    | _ => exact h.elim
  | _ => exact h.elim
theorem de_ix (ha : DE X W a ta ua) (hb : DE X W b tb ub) (hs : PlainIx b := by intro _ _; rfl) : DE X W (.Subscript a b pos) (tOp (rIxS2 X.K) ta tb) (uOp oIx ua ub) := ⟨pe_ix (ixOr ix_list ix_tup) ha.pe hb.pe hs, snd_op snd_ix ha.snd hb.snd⟩
/-! ### slices -/
abbrev UO := Sl → (Option Int → Prop) → (Ex → Prop) → Prop
def SndO (K : Fr) (W : WX) (t : TO) (u : UO) : Prop := ∀ (R : Rg) (F H : Hp) (σ : St) (s : Sl) (P : Option Int → Prop) (PX : Ex → Prop) (Q : Option Int → Hp → Prop), RepD K R F σ s → Ok K R F H → u s P PX →
  (∀ i F' H', Gr K R F H F' H' → P i → Q i H') → Out K W R F H σ PX → t σ H Q
structure DOp (X : Cx) (W : WX) (e : Option Expr) (t : TO) (u : UO) : Prop where
  po : PO X e t
  snd : SndO X.K W t u
def uNoP : UO := fun _ P _ => P none
def uPart (u : UE) : UO := fun s P PX => u s (fun r => onD r fun x => match x with | .int i => P (some i) | _ => False) PX
theorem do_none : DOp X W none tNoPart uNoP := ⟨po_none, fun R F H σ s P PX Q rd ok q c o => c none F H ok.refl q⟩
theorem do_some (h : DE X W e te u) : DOp X W (some e) (tPart te) (uPart u) := by
  refine ⟨po_some h.pe, fun R F H σ s P PX Q rd ok q c o => ?_⟩
  refine h.snd.dat rd ok q (fun v x F1 H1 g d q => ?_) o
  cases d <;> first | exact q.elim | skip
  exact ⟨_, rfl, c _ F1 H1 g q⟩
def rSlG (K : Fr) : V → Option Int → Option Int → Hp → VK → Prop := fun x lo hi H Q => rSlL K x lo hi H Q ∨ rSlA K x lo hi H Q
theorem slOr {r r' : V → Option Int → Option Int → Hp → VK → Prop} (h : SlR X r) (h' : SlR X r') : SlR X (fun x lo hi H Q => r x lo hi H Q ∨ r' x lo hi H Q) := fun pins s σ H x v vl vu lo hi sl Q I rx hs pl pu q =>
  q.elim (fun q => h pins s σ H x v vl vu lo hi sl Q I rx hs pl pu q) fun q => h' pins s σ H x v vl vu lo hi sl Q I rx hs pl pu q
def cutD (l : List D) (lo hi : Option Int) : List D := (l.drop (HT.sIx l.length 0 lo)).take (HT.sIx l.length l.length hi - HT.sIx l.length 0 lo)
theorem DpAll.cut {K : Fr} {F : Hp} {vs : List V} {l : List D} {lo hi : Option Int} (h : DpAll K F vs l) : DpAll K F (cutV vs lo hi) (cutD l lo hi) := by
  unfold cutV cutD
  rw [h.lengthH]
  exact (h.dropH _).takeH _
def oSl (lo hi : Option Int) : Op1 := fun x P => match x with
  | .list l => P (.own (cutD l lo hi))
  | .tuple l => P (.d (.tuple (cutD l lo hi)))
  | _ => False
def uSl (u : UE) (ul uh : UO) : UE := fun s P PX => u s (fun r => onD r fun x => ul s (fun lo => uh s (fun hi => oSl lo hi x P) PX) PX) PX
theorem cut_whole {l : List D} {lo hi : Option Int} (h : HT.sIx l.length 0 lo = 0 ∧ HT.sIx l.length l.length hi = l.length) : cutD l lo hi = l := by
  unfold cutD
  rw [h.1, h.2]
  simp
theorem de_slice {lo hi : Option Expr} {tl th : TO} {ul uh : UO} {p2} (h : DE X W e te u) (hl : DOp X W lo tl ul) (hh : DOp X W hi th uh) : DE X W (.Subscript e (.Slice lo hi none p2) pos) (tSl (rSlG X.K) te tl th) (uSl u ul uh) := by
  refine ⟨pe_slice (slOr sl_list sl_tupA) h.pe hl.po hh.po, fun R F H σ s P PX Q rd ok q c o => ?_⟩
  refine h.snd.dat rd ok q (fun v x F1 H1 g d q => ?_) o
  refine hl.snd R F1 H1 σ s _ PX _ (rd.sub g.ex) g.ok q (fun i F2 H2 g2 q => ?_) (o.step g)
  refine hh.snd R F2 H2 σ s _ PX _ (rd.sub (g.trans g2).ex) g2.ok q (fun j F3 H3 g3 q => ?_) ((o.step g).step g2)
  have g4 := (g.trans g2).trans g3
  have d3 := d.subH (g2.trans g3).ex
  cases d3 with
  | @lst a xs l hs ha =>
    refine .inl ⟨a, xs, rfl, g4.ok.sub.l hs, fun p hp => ?_⟩
    obtain ⟨g5, rep⟩ := g4.ok.own hp (DpAll.cut (lo := i) (hi := j) ha)
    exact c _ (.own _) _ _ (g4.trans g5) (rep.back g4) q
  | @tup a xs l hs ha =>
    refine .inr ⟨a, xs, rfl, g4.ok.sub.t hs, fun hw => ?_, fun hw p hp => ?_⟩
    · rw [ha.lengthH] at hw
      refine c _ (.d (.tuple l)) _ _ g4 (.tup hs ha) ?_
      have q' : P (.d (.tuple (cutD l i j))) := q
      rw [cut_whole hw] at q'
      exact q'
    · have g5 := g4.ok.frz (o := .tup (cutV xs i j)) hp
      exact c _ (.d (.tuple (cutD l i j))) _ _ (g4.trans g5) (.tup (.inl (.inl upd_same)) ((DpAll.cut ha).subH g5.ex)) q
  | _ => exact q.elim

/-! ### built-in functions of data -/
abbrev OpL := List D → (U → Prop) → Prop
def SndC (K : Fr) (r : List V → Hp → VK → Prop) (o : OpL) : Prop := ∀ (R : Rg) (F H : Hp) (vs : List V) (l : List D) (P : U → Prop) (Q : VK), Ok K R F H → DpAll K F vs l → o l P →
  (∀ v r F' H', Gr K R F H F' H' → RepR K R H F' H' v r → P r → Q v H') → r vs H Q
def uCB (o : OpL) (ut : UA) : UE := fun s P PX => ut s (fun rs => onDs rs fun l => o l P) PX
structure DC (X : Cx) (f : Value) (r : List V → Hp → VK → Prop) (o : OpL) : Prop where
  op : CallR X f r
  snd : SndC X.K r o
theorem snd_cb {K : Fr} {r : List V → Hp → VK → Prop} {o : OpL} (h : SndC K r o) (ha : SndA K W t ut) : SndE K W (tCB r t) (uCB o ut) := by
  intro R F H σ s P PX Q rd ok q c out
  refine ha R F H σ s _ PX _ rd ok q (fun vs rs F1 H1 g ras q1 => ?_) out
  unfold onDs at q1
  split at q1
  · next l hl => exact h R F1 H1 vs l P Q g.ok (ras.data hl) q1 fun v r F2 H2 g2 rep p => c v r F2 H2 (g.trans g2) (rep.back g) p
  · exact q1.elim
theorem de_callB {id : String} {x : Str} {r : List V → Hp → VK → Prop} {o : OpL} (h : DC X (.builtin id) r o) (hg : Gl X x) (hm : X.mg x = none) (hv : bootBuiltins x = some (.builtin id)) (ha : DA X W (e :: es) t ut) (hn : x ≠ "__name__" := by decide) (hdb : (x == ("__debug__" : Str)) = false := by decide)
    (he : starEach (e :: es) X.env = (false, eval e X.env) :: starEach es X.env := by rfl) (hpl : (backTo pos (starEach es X.env)).any (·.1) = false := by rfl) : DE X W (.Call (.Name x p) (e :: es) [] pos) (tCB r t) (uCB o ut) :=
  ⟨pe_callB h.op hg hm hv ha.pa hn hdb he hpl, snd_cb h.snd ha.snd⟩
theorem de_callTy {T : String} {x : Str} {r : List V → Hp → VK → Prop} {o : OpL} (h : DC X (.type T) r o) (hg : Gl X x) (hm : X.mg x = none) (hv : bootBuiltins x = some (.type T)) (ha : DA X W (e :: es) t ut) (hn : x ≠ "__name__" := by decide) (hdb : (x == ("__debug__" : Str)) = false := by decide)
    (he : starEach (e :: es) X.env = (false, eval e X.env) :: starEach es X.env := by rfl) (hpl : (backTo pos (starEach es X.env)).any (·.1) = false := by rfl) : DE X W (.Call (.Name x p) (e :: es) [] pos) (tCB r t) (uCB o ut) :=
  ⟨pe_callTy h.op hg hm hv ha.pa hn hdb he hpl, snd_cb h.snd ha.snd⟩
def cOr (r r' : List V → Hp → VK → Prop) : List V → Hp → VK → Prop := fun xs H Q => r xs H Q ∨ r' xs H Q
theorem callOr {f : Value} {r r' : List V → Hp → VK → Prop} (h : CallR X f r) (h' : CallR X f r') : CallR X f (cOr r r') := fun pins s σ H xs us Q I r q => q.elim (fun q => h pins s σ H xs us Q I r q) fun q => h' pins s σ H xs us Q I r q
/-- len -/
def oLen : OpL := fun l P => match l with
  | [.list m] => P (.d (.int m.length))
  | [.tuple m] => P (.d (.int m.length))
  | [.str z] => z.length ≤ sizeLine ∧ P (.d (.int z.length))
  | _ => False
def rLenA (K : Fr) : List V → Hp → VK → Prop := cOr (fun xs H Q => ∃ p ys, xs = [.ref p] ∧ (SqL K H p ys ∨ SqT K H p ys) ∧ Q (.int ys.length) H) (fun xs H Q => ∃ z, xs = [.str z] ∧ z.length ≤ sizeLine ∧ Q (.int z.length) H)
theorem dc_len : DC X (.builtin "len") (rLenA X.K) oLen := by
  refine ⟨callOr call_len_seq call_len_str, ?_⟩
  intro R F H vs l P Q ok h q c
  unfold oLen at q
  split at q
  · cases h with | cons h1 h2 => cases h2; cases h1 with | @lst a xs _ hs ha => exact .inl ⟨a, xs, rfl, .inl (ok.sub.l hs), by rw [ha.lengthH]; exact c _ (.d (.int _)) F H ok.refl (.int _) q⟩
  · cases h with | cons h1 h2 => cases h2; cases h1 with | @tup a xs _ hs ha => exact .inl ⟨a, xs, rfl, .inr (ok.sub.t hs), by rw [ha.lengthH]; exact c _ (.d (.int _)) F H ok.refl (.int _) q⟩
  · cases h with | cons h1 h2 => cases h2; cases h1; exact .inr ⟨_, rfl, q.1, c _ (.d (.int _)) F H ok.refl (.int _) q.2⟩
  · exact q.elim
/-- list(xs), tuple(xs) -/
def oList : OpL := fun l P => match l with
  | [.list m] => P (.own m)
  | [.tuple m] => P (.own m)
  | _ => False
def rListA (K : Fr) : List V → Hp → VK → Prop := fun xs H Q => ∃ p ys, xs = [.ref p] ∧ (SqL K H p ys ∨ SqT K H p ys) ∧ ∀ l, H l = none → Q (.ref l) (upd H l (.lst ys))
theorem dc_list : DC X (.type "list") (rListA X.K) oList := by
  refine ⟨call_list_of, ?_⟩
  intro R F H vs l P Q ok h q c
  unfold oList at q
  split at q
  · cases h with
    | cons h1 h2 =>
      cases h2
      cases h1 with
      | @lst a xs _ hs ha =>
        refine ⟨a, xs, rfl, .inl (ok.sub.l hs), fun p hp => ?_⟩
        obtain ⟨g, rep⟩ := ok.own hp ha
        exact c _ (.own _) _ _ g rep q
  · cases h with
    | cons h1 h2 =>
      cases h2
      cases h1 with
      | @tup a xs _ hs ha =>
        refine ⟨a, xs, rfl, .inr (ok.sub.t hs), fun p hp => ?_⟩
        obtain ⟨g, rep⟩ := ok.own hp ha
        exact c _ (.own _) _ _ g rep q
  · exact q.elim
def oTuple : OpL := fun l P => match l with
  | [.list m] => P (.d (.tuple m))
  | [.tuple m] => P (.d (.tuple m))
  | _ => False
def rTupA (K : Fr) : List V → Hp → VK → Prop := fun xs H Q => ∃ p ys, xs = [.ref p] ∧ ((SqL K H p ys ∧ ∀ l, H l = none → Q (.ref l) (upd H l (.tup ys))) ∨ (SqT K H p ys ∧ Q (.ref p) H))
theorem dc_tuple : DC X (.type "tuple") (rTupA X.K) oTuple := by
  refine ⟨call_tuple_of, ?_⟩
  intro R F H vs l P Q ok h q c
  unfold oTuple at q
  split at q
  · cases h with
    | cons h1 h2 =>
      cases h2
      cases h1 with
      | @lst a xs m hs ha =>
        refine ⟨a, xs, rfl, .inl ⟨ok.sub.l hs, fun p hp => ?_⟩⟩
        have g := ok.frz (o := .tup xs) hp
        exact c _ (.d (.tuple _)) _ _ g (.tup (.inl (.inl upd_same)) (ha.subH g.ex)) q
  · cases h with
    | cons h1 h2 =>
      cases h2
      cases h1 with
      | @tup a xs m hs ha => exact ⟨a, xs, rfl, .inr ⟨ok.sub.t hs, c _ (.d (.tuple _)) F H ok.refl (.tup hs ha) q⟩⟩
  · exact q.elim
/-- int of an int, of a bool -/
def oInt : OpL := fun l P => match l with
  | [.int i] => P (.d (.int i))
  | [.bool k] => P (.d (.int (if k then 1 else 0)))
  | _ => False
def rIntA : List V → Hp → VK → Prop := fun xs H Q => (∃ i, xs = [.int i] ∧ Q (.int i) H) ∨ ∃ k, xs = [.bl k] ∧ Q (.int (if k then 1 else 0)) H
theorem dc_int : DC X (.type "int") rIntA oInt := by
  refine ⟨call_int1, ?_⟩
  intro R F H vs l P Q ok h q c
  unfold oInt at q
  split at q
  · cases h with | cons h1 h2 => cases h2; cases h1; exact .inl ⟨_, rfl, c _ (.d (.int _)) F H ok.refl (.int _) q⟩
  · cases h with | cons h1 h2 => cases h2; cases h1; exact .inr ⟨_, rfl, c _ (.d (.int _)) F H ok.refl (.int _) q⟩
  · exact q.elim
def oAbs : OpL := fun l P => match l with
  | [.int i] => P (.d (.int (if i < 0 then -i else i)))
  | _ => False
def rAbsA : List V → Hp → VK → Prop := fun xs H Q => ∃ i, xs = [.int i] ∧ Q (.int (if i < 0 then -i else i)) H
theorem dc_abs : DC X (.builtin "abs") rAbsA oAbs := by
  refine ⟨call_abs, ?_⟩
  intro R F H vs l P Q ok h q c
  unfold oAbs at q
  split at q
  · cases h with | cons h1 h2 => cases h2; cases h1; exact ⟨_, rfl, c _ (.d (.int _)) F H ok.refl (.int _) q⟩
  · exact q.elim
/-- all(xs), any(xs), xs a list of boolsD; sum(xs), of intsD -/
def boolsD : List D → Option (List Bool)
  | [] => some []
  | .bool b :: l => (boolsD l).map (b :: ·)
  | _ :: _ => none
def intsD : List D → Option (List Int)
  | [] => some []
  | .int b :: l => (intsD l).map (b :: ·)
  | _ :: _ => none
theorem bools_rep {K : Fr} {F : Hp} : ∀ {l : List D} {vs : List V} {bs : List Bool}, DpAll K F vs l → boolsD l = some bs → vs = bs.map V.bl
  | [], _, _, h, e => by cases h; cases e; rfl
  | x :: l, _, bs, h, e => by
    cases h with
    | cons h1 h2 =>
      cases x <;> first | (cases e; done) | skip
      obtain ⟨bs', e', rfl⟩ := Option.map_eq_some_iff.mp (show (boolsD l).map _ = some bs from e)
      cases h1
      rw [bools_rep h2 e']; rfl
theorem ints_rep {K : Fr} {F : Hp} : ∀ {l : List D} {vs : List V} {bs : List Int}, DpAll K F vs l → intsD l = some bs → vs = bs.map V.int
  | [], _, _, h, e => by cases h; cases e; rfl
  | x :: l, _, bs, h, e => by
    cases h with
    | cons h1 h2 =>
      cases x <;> first | (cases e; done) | skip
      obtain ⟨bs', e', rfl⟩ := Option.map_eq_some_iff.mp (show (intsD l).map _ = some bs from e)
      cases h1
      rw [ints_rep h2 e']; rfl
@[simp] theorem bools_map (bs : List Bool) : boolsD (bs.map PyData.bool) = some bs := by
  induction bs with
  | nil => rfl
  | cons b bs ih => show (boolsD (bs.map PyData.bool)).map _ = _; rw [ih]; rfl
@[simp] theorem ints_map (bs : List Int) : intsD (bs.map PyData.int) = some bs := by
  induction bs with
  | nil => rfl
  | cons b bs ih => show (intsD (bs.map PyData.int)).map _ = _; rw [ih]; rfl
def onB (l : List D) (k : List Bool → Prop) : Prop := match l with
  | [.list m] => match boolsD m with
    | some bs => k bs
    | none => False
  | _ => False
def onI (l : List D) (k : List Int → Prop) : Prop := match l with
  | [.list m] => match intsD m with
    | some bs => k bs
    | none => False
  | _ => False
def oAll : OpL := fun l P => onB l fun bs => P (.d (.bool (bs.all id)))
def oAny : OpL := fun l P => onB l fun bs => P (.d (.bool (bs.any id)))
def oSum : OpL := fun l P => onI l fun bs => P (.d (.int bs.sum))
theorem onB_rep {K : Fr} {F H : Hp} {R : Rg} {vs : List V} {l : List D} {k : List Bool → Prop} (ok : Ok K R F H) (h : DpAll K F vs l) (q : onB l k) : ∃ a bs, vs = [.ref a] ∧ SqL K H a (bs.map V.bl) ∧ k bs := by
  unfold onB at q
  split at q
  · split at q
    · next bs e =>
      cases h with
      | cons h1 h2 =>
        cases h2
        cases h1 with
        | @lst a xs _ hs ha =>
          rw [bools_rep ha e] at hs
          exact ⟨a, bs, rfl, ok.sub.l hs, q⟩
    · exact q.elim
  · exact q.elim
theorem onI_rep {K : Fr} {F H : Hp} {R : Rg} {vs : List V} {l : List D} {k : List Int → Prop} (ok : Ok K R F H) (h : DpAll K F vs l) (q : onI l k) : ∃ a bs, vs = [.ref a] ∧ SqL K H a (bs.map V.int) ∧ k bs := by
  unfold onI at q
  split at q
  · split at q
    · next bs e =>
      cases h with
      | cons h1 h2 =>
        cases h2
        cases h1 with
        | @lst a xs _ hs ha =>
          rw [ints_rep ha e] at hs
          exact ⟨a, bs, rfl, ok.sub.l hs, q⟩
    · exact q.elim
  · exact q.elim
theorem dc_all (hc : X.calm = true) : DC X (.builtin "all") (rAll X.K) oAll := by
  refine ⟨cr_all hc, fun R F H vs l P Q ok h q c => ?_⟩
  obtain ⟨a, bs, e, hs, q⟩ := onB_rep ok h q
  exact ⟨a, bs, e, hs, c _ (.d (.bool _)) F H ok.refl (.bl _) q⟩
theorem dc_any (hc : X.calm = true) : DC X (.builtin "any") (rAny X.K) oAny := by
  refine ⟨cr_any hc, fun R F H vs l P Q ok h q c => ?_⟩
  obtain ⟨a, bs, e, hs, q⟩ := onB_rep ok h q
  exact ⟨a, bs, e, hs, c _ (.d (.bool _)) F H ok.refl (.bl _) q⟩
theorem dc_sum (hc : X.calm = true) : DC X (.builtin "sum") (rSum X.K) oSum := by
  refine ⟨cr_sum hc, fun R F H vs l P Q ok h q c => ?_⟩
  obtain ⟨a, bs, e, hs, q⟩ := onI_rep ok h q
  exact ⟨a, bs, e, hs, c _ (.d (.int _)) F H ok.refl (.int _) q⟩
end
end Pl

namespace Pl
open PySem L2
/-! ### statements: what is owned beside what is frozen -/
def RepO (K : Fr) (R : Rg) (H0 F H : Hp) (a : Addr) (v : V) : U → Prop
  | .own l => v = .ref a ∧ H0 a = none ∧ F a = none ∧ ∃ xs, H a = some (.lst xs) ∧ DpAll K F xs l
  | .d x => Dp K F v x
  | .hold V => ∃ a, v = .ref a ∧ R.a = some a ∧ R.HV = V
  | .exc a dd fs => RepE K F v a dd fs
structure RepS (K : Fr) (R : Rg) (F0 H0 F H : Hp) (σ : St) (s : Sl) : Prop where
  g : Gr K R F0 H0 F H
  live : ∀ b, R.a = some b → H0 b ≠ none
  len : σ.length = s.length
  sl : ∃ A : Nat → Addr, (∀ (i : Nat) (r : U), s[i]? = some (some r) → ∃ v, σ[i]? = some (some v) ∧ RepO K R H0 F H (A i) v r) ∧
    ∀ (i j : Nat) (l m : List D), s[i]? = some (some (.own l)) → s[j]? = some (some (.own m)) → A i = A j → i = j
structure KS where
  nx : Sl → Prop
  rt : U → Sl → Prop
  bk : Sl → Prop
  ct : Sl → Prop
  ex : Ex → Sl → Prop
abbrev US := KS → Sl → Prop
structure Cont (K : Fr) (W : WX) (R : Rg) (F0 H0 : Hp) (k : KS) (D : Ends) : Prop where
  nx : ∀ F H σ s, RepS K R F0 H0 F H σ s → k.nx s → D.nx σ H
  rt : ∀ F H σ s v r, RepS K R F0 H0 F H σ s → RepR K R H0 F H v r → k.rt r s → D.rt v H
  bk : ∀ F H σ s, RepS K R F0 H0 F H σ s → k.bk s → D.bk σ H
  ct : ∀ F H σ s, RepS K R F0 H0 F H σ s → k.ct s → D.ct σ H
  ex : ∀ F H σ s cls d x, RepS K R F0 H0 F H σ s → RepX K F cls d x → k.ex x s → W cls d σ H
def SndS (K : Fr) (W : WX) (t : TS) (u : US) : Prop := ∀ (R : Rg) (F0 H0 F H : Hp) (σ : St) (s : Sl) (k : KS) (D : Ends), RepS K R F0 H0 F H σ s → Cont K W R F0 H0 k D → u k s → t D σ H
structure DS (X : Cx) (W : WX) (st : Stmt) (t : TS) (u : US) : Prop where
  ps : PS X st t
  snd : SndS X.K W t u
structure DSs (X : Cx) (W : WX) (st : List Stmt) (t : TS) (u : US) : Prop where
  ps : PSs X st t
  snd : SndS X.K W t u

/-- the slots as an expression sees them: owned lists hidden, or read as data -/
def vw1 (m : Bool) : Option U → Option U
  | some (.own l) => match m with
    | true => some (.d (.list l))
    | false => none
  | some (.d x) => some (.d x)
  | some (.hold V) => some (.hold V)
  | some (.exc a dd fs) => some (.exc a dd fs)
  | none => none
def vw (m : Bool) (s : Sl) : Sl := s.map (vw1 m)
def okU : Bool → U → Prop
  | false, _ => True
  | true, r => nolU r = true
def okX : Bool → Ex → Prop
  | false, _ => True
  | true, x => ∀ p ∈ x.fs, nol p.2 = true

section
variable {K : Fr} {R : Rg} {F0 H0 F H F' H' : Hp} {σ : St} {s : Sl} {W : WX} {k : KS} {E : Ends}
theorem vw_get (m : Bool) (s : Sl) (i : Nat) : (vw m s)[i]? = (s[i]?).map (vw1 m) := by unfold vw; rw [List.getElem?_map]
theorem RepS.hid (h : RepS K R F0 H0 F H σ s) : RepD K R F σ (vw false s) := by
  obtain ⟨A, h1, _⟩ := h.sl
  refine ⟨by unfold vw; rw [List.length_map]; exact h.len, fun i r e => ?_⟩
  rw [vw_get] at e
  obtain ⟨o, e1, e2⟩ := Option.map_eq_some_iff.mp e
  cases o with
  | none => cases e2
  | some r' =>
    obtain ⟨v, h2, h3⟩ := h1 i r' e1
    cases r' with
    | own l => cases e2
    | d x => cases e2; exact ⟨v, h2, h3⟩
    | hold V => cases e2; exact ⟨v, h2, h3⟩
    | exc a dd fs => cases e2; exact ⟨v, h2, h3⟩
theorem RepO.grow {a : Addr} {v : V} : ∀ {r : U}, RepO K R H0 F H a v r → (∀ b, R.a = some b → H0 b ≠ none) → Gr K R F H F' H' → RepO K R H0 F' H' a v r
  | .d _, h, _, g => Dp.subH h g.ex
  | .hold _, h, _, _ => h
  | .exc _ _ _, h, _, g => RepE.sub h g.ex
  | .own l, h, lv, g => by
    obtain ⟨h1, h2, h3, xs, h4, h5⟩ := h
    have hd : ¬ R.a = some a := fun z => lv a z h2
    refine ⟨h1, h2, ?_, xs, g.keep a _ hd h4, h5.subH g.ex⟩
    cases e : F' a with
    | none => rfl
    | some o => rcases g.new a o e with z | z
                · rw [h3] at z; cases z
                · rw [h4] at z; cases z
theorem RepS.grow (h : RepS K R F0 H0 F H σ s) (g : Gr K R F H F' H') : RepS K R F0 H0 F' H' σ s := by
  obtain ⟨A, h1, h2⟩ := h.sl
  exact ⟨h.g.trans g, h.live, h.len, A, fun i r e => (h1 i r e).imp fun v h => ⟨h.1, h.2.grow (fun b hb => by exact RepS.live ‹_› b hb) g⟩, h2⟩
/-- an owned list's address -/
def OwnA (A : Nat → Addr) (s : Sl) (b : Addr) : Prop := ∃ (i : Nat) (l : List D), s[i]? = some (some (.own l)) ∧ A i = b
open Classical in
/-- owned lists as if they were frozen -/
noncomputable def frzA (A : Nat → Addr) (s : Sl) (F H : Hp) : Hp := fun b => if OwnA A s b then H b else F b
open Classical in
noncomputable def thaw (A : Nat → Addr) (s : Sl) (F : Hp) : Hp := fun b => if OwnA A s b then none else F b
theorem RepS.vis (h : RepS K R F0 H0 F H σ s) : ∃ (B : Addr → Prop) (F1 : Hp), RepD K R F1 σ (vw true s) ∧ Ok K { R with bad := B } F1 H ∧ ∀ F2 H2, Gr K { R with bad := B } F1 H F2 H2 →
    ∃ F3, RepS K R F0 H0 F3 H2 σ s ∧ Gr K R F H F3 H2 ∧ (∀ b, (∀ l, F2 b ≠ some (.lst l)) → ∀ o, F2 b = some o → F3 b = some o) ∧ (∀ b, F2 b = none → F3 b = none) := by
  obtain ⟨A, h1, h2⟩ := h.sl
  have own : ∀ b, OwnA A s b → H0 b = none ∧ F b = none ∧ ∃ xs l, H b = some (.lst xs) ∧ DpAll K F xs l := by
    rintro b ⟨i, l, e, rfl⟩
    obtain ⟨v, _, z1, z2, z3, xs, z4, z5⟩ := h1 i _ e
    exact ⟨z2, z3, xs, l, z4, z5⟩
  have sF : Sub F (frzA A s F H) := fun b o e => by
    unfold frzA
    split
    · next z => obtain ⟨_, z2, _⟩ := own b z; rw [z2] at e; cases e
    · exact e
  have hok : Ok K { R with bad := fun b => R.bad b ∨ OwnA A s b } (frzA A s F H) H := by
    refine ⟨fun b o e => ?_, fun b hb => ?_, fun b hb => ?_, fun b hb => ?_⟩
    · unfold frzA at e
      split at e
      · exact e
      · exact h.g.ok.sub b o e
    · unfold frzA
      split
      · next z => exact absurd (own b z).1 (h.live b hb)
      · exact h.g.ok.dis b hb
    · obtain ⟨xs, l, G, g1, g2, g3, g4⟩ := h.g.ok.inv b hb
      refine ⟨xs, l, G, g1, g2.trans sF, fun c hc => ?_, g4⟩
      rcases hc with hc | hc
      · exact g3 c hc
      · cases e : G c with
        | none => rfl
        | some o => have := g2 c o e; rw [(own c hc).2.1] at this; cases this
    · rcases hb with hb | hb
      · exact h.g.ok.alive b hb
      · obtain ⟨_, _, xs, l, e, _⟩ := own b hb
        rw [e]; simp
  refine ⟨fun b => R.bad b ∨ OwnA A s b, frzA A s F H, ⟨by unfold vw; rw [List.length_map]; exact h.len, fun i r e => ?_⟩, hok, fun F2 H2 g => ?_⟩
  · rw [vw_get] at e
    obtain ⟨o, e1, e2⟩ := Option.map_eq_some_iff.mp e
    cases o with
    | none => cases e2
    | some r' =>
      obtain ⟨v, h4, h3⟩ := h1 i r' e1
      cases r' with
      | own l =>
        cases e2
        obtain ⟨rfl, z2, z3, xs, z4, z5⟩ := h3
        refine ⟨_, h4, .lst (.inl (.inl ?_)) (z5.subH sF)⟩
        unfold frzA
        rw [if_pos ⟨i, l, e1, rfl⟩]
        exact z4
      | d x => cases e2; exact ⟨v, h4, Dp.subH h3 sF⟩
      | hold V => cases e2; exact ⟨v, h4, h3⟩
      | exc a dd fs => cases e2; exact ⟨v, h4, RepE.sub h3 sF⟩
  · -- the owned ones are given back
    have keepO : ∀ b, OwnA A s b → H2 b = H b ∧ F2 b = H b := fun b z => by
      obtain ⟨z1, z2, xs, l, z4, z5⟩ := own b z
      have e1 : frzA A s F H b = some (.lst xs) := by unfold frzA; rw [if_pos z]; exact z4
      have e2 := g.ex b _ e1
      exact ⟨(g.ok.sub b _ e2).trans z4.symm, e2.trans z4.symm⟩
    have sT : Sub F (thaw A s F2) := fun b o e => by
      have nz : ¬ OwnA A s b := fun z => by rw [(own b z).2.1] at e; cases e
      unfold thaw
      rw [if_neg nz]
      exact g.ex b o (by unfold frzA; rw [if_neg nz]; exact e)
    have nl : ∀ b, (∀ l, F2 b ≠ some (.lst l)) → ∀ o, F2 b = some o → thaw A s F2 b = some o := fun b n o e => by
      have nz : ¬ OwnA A s b := fun z => by
        obtain ⟨_, _, xs, l, z4, _⟩ := own b z
        exact n xs ((keepO b z).2.trans z4)
      unfold thaw
      rw [if_neg nz]; exact e
    have thN : ∀ b, F2 b = none → thaw A s F2 b = none := fun b e => by
      unfold thaw
      by_cases z : OwnA A s b
      · rw [if_pos z]
      · rw [if_neg z]; exact e
    have gT : Gr K R F H (thaw A s F2) H2 := by
      refine ⟨sT, g.keep, fun b o e => ?_, ⟨fun b o e => ?_, fun b hb => thN b (g.ok.dis b hb), fun b hb => ?_, fun b hb => g.ok.alive b (.inl hb)⟩⟩
      · unfold thaw at e
        split at e
        · cases e
        · next nz =>
          rcases g.new b o e with z | z
          · unfold frzA at z; rw [if_neg nz] at z; exact .inl z
          · exact .inr z
      · unfold thaw at e
        split at e
        · cases e
        · exact g.ok.sub b o e
      · obtain ⟨xs, l, G, g1, g2, g3, g4⟩ := g.ok.inv b hb
        refine ⟨xs, l, G, g1, fun c o e => ?_, fun c hc => g3 c (.inl hc), g4⟩
        have nz : ¬ OwnA A s c := fun z => by rw [g3 c (.inr z)] at e; cases e
        unfold thaw
        rw [if_neg nz]; exact g2 c o e
    refine ⟨thaw A s F2, ⟨h.g.trans gT, h.live, h.len, A, fun i r e => ?_, h2⟩, gT, nl, thN⟩
    obtain ⟨v, h4, h3⟩ := h1 i r e
    exact ⟨v, h4, h3.grow h.live gT⟩

theorem nol_of {F1 F2 H1 : Hp} {v : V} (e : ∀ b, (∀ l, F1 b ≠ some (.lst l)) → ∀ o, F1 b = some o → F2 b = some o) (n : ∀ b, F1 b = none → F2 b = none) : ∀ {r : U}, nolU r = true → RepR K R H F1 H1 v r → RepR K R H F2 H1 v r
  | .d x, h, q => dp_nol e x v h q
  | .hold _, _, q => q
  | .exc _ _ _, h, _ => by cases h
  | .own l, h, q => by
    obtain ⟨p, xs, h1, h2, h3, h4, h5, h6⟩ := q
    exact ⟨p, xs, h1, h2, dps_nol e l xs h h3, n p h4, h5, h6⟩
theorem lookup_mem {f : Str} {y : D} : ∀ {fs : List (Str × D)}, fs.lookup f = some y → ∃ p ∈ fs, p.2 = y
  | [], h => by cases h
  | (g, z) :: fs, h => by
    by_cases e : f = g
    · subst e
      have : z = y := by simpa [List.lookup] using h
      exact ⟨_, List.mem_cons_self, this⟩
    · have e' : (f == g) = false := by simpa using e
      obtain ⟨p, h1, h2⟩ := lookup_mem (fs := fs) (by simpa [List.lookup, e'] using h)
      exact ⟨p, List.mem_cons_of_mem _ h1, h2⟩
theorem nolX_of {F1 F2 : Hp} {cls : Value} {d : Option Addr} {x : Ex} (e : ∀ b, (∀ l, F1 b ≠ some (.lst l)) → ∀ o, F1 b = some o → F2 b = some o) (h : okX true x) (q : RepX K F1 cls d x) : RepX K F2 cls d x := by
  obtain ⟨h1, dd, fs, h2, h3, h4⟩ := q
  refine ⟨h1, dd, fs, h2, e dd (fun l z => by rw [h3] at z; cases z) _ h3, fun f y hy => ?_⟩
  obtain ⟨v, e1, e2⟩ := h4 f y hy
  obtain ⟨p, hp, rfl⟩ := lookup_mem hy
  exact ⟨v, e1, dp_nol e _ v (h p hp) e2⟩
/-- an expression in a statement: m tells whether it sees the owned lists -/
theorem SndE.run {t : TE} {u : UE} (m : Bool) (hs : SndE K W t u) (h : RepS K R F0 H0 F H σ s) (c : Cont K W R F0 H0 k E) {P : U → Prop} {Q : VK} (q : u (vw m s) (fun r => okU m r ∧ P r) (fun x => okX m x ∧ k.ex x s))
    (go : ∀ v r F' H', Gr K R F H F' H' → RepS K R F0 H0 F' H' σ s → RepR K R H F' H' v r → P r → Q v H') : t σ H Q := by
  cases m with
  | false =>
    exact hs R F H σ _ _ _ Q h.hid h.g.ok q (fun v r F' H' g rep p => go v r F' H' g (h.grow g) rep p.2) fun cls d x F' H' g rep p => c.ex F' H' σ s cls d x (h.grow g) rep p.2
  | true =>
    obtain ⟨B, F1, rd, ok, back⟩ := h.vis
    refine hs { R with bad := B } F1 H σ _ _ _ Q ⟨rd.len, fun i r e => (rd.get i r e).imp fun v z => ⟨z.1, z.2.rg rfl rfl⟩⟩ ok q (fun v r F' H' g rep p => ?_) fun cls d x F' H' g rep p => ?_
    · obtain ⟨F3, rs, g3, n1, n2⟩ := back F' H' g
      exact go v r F3 H' g3 rs (nol_of n1 n2 p.1 (rep.rg rfl rfl)) p.2
    · obtain ⟨F3, rs, g3, n1, n2⟩ := back F' H' g
      exact c.ex F3 H' σ s cls d x rs (nolX_of n1 p.1 rep) p.2
theorem SndT.run {t : TT} {u : UT} (m : Bool) (hs : SndT K W t u) (h : RepS K R F0 H0 F H σ s) (c : Cont K W R F0 H0 k E) {P : Bool → Prop} {Q : Bool → Hp → Prop} (q : u (vw m s) P (fun x => okX m x ∧ k.ex x s))
    (go : ∀ b F' H', RepS K R F0 H0 F' H' σ s → P b → Q b H') : t σ H Q := by
  cases m with
  | false =>
    exact hs R F H σ _ _ _ Q h.hid h.g.ok q (fun b F' H' g p => go b F' H' (h.grow g) p) fun cls d x F' H' g rep p => c.ex F' H' σ s cls d x (h.grow g) rep p.2
  | true =>
    obtain ⟨B, F1, rd, ok, back⟩ := h.vis
    refine hs { R with bad := B } F1 H σ _ _ _ Q ⟨rd.len, fun i r e => (rd.get i r e).imp fun v z => ⟨z.1, z.2.rg rfl rfl⟩⟩ ok q (fun b F' H' g p => ?_) fun cls d x F' H' g rep p => ?_
    · obtain ⟨F3, rs, g3, n1, n2⟩ := back F' H' g
      exact go b F3 H' rs p
    · obtain ⟨F3, rs, g3, n1, n2⟩ := back F' H' g
      exact c.ex F3 H' σ s cls d x rs (nolX_of n1 p.1 rep) p.2

/-! ### slots stored -/
theorem get_set {α : Type} {l : List (Option α)} {i j : Nat} {x : α} {y : Option α} (h : (l.set i y)[j]? = some (some x)) : (j = i ∧ y = some x ∧ i < l.length) ∨ (j ≠ i ∧ l[j]? = some (some x)) := by
  by_cases e : i = j
  · subst e
    by_cases hl : i < l.length
    · rw [List.getElem?_set_self hl] at h
      exact .inl ⟨rfl, Option.some.inj h, hl⟩
    · rw [List.getElem?_eq_none (by rw [List.length_set]; omega)] at h; cases h
  · rw [List.getElem?_set_ne e] at h
    exact .inr ⟨fun z => e z.symm, h⟩
/-- slots and values have one length -/
theorem RepS.put_d {v : V} {x : D} {i : Nat} (h : RepS K R F0 H0 F H σ s) (d : Dp K F v x) : RepS K R F0 H0 F H (σ.set i (some v)) (s.set i (some (.d x))) := by
  obtain ⟨A, h1, h2⟩ := h.sl
  have hl := h.len
  refine ⟨h.g, h.live, by rw [List.length_set, List.length_set]; exact hl, A, fun j r e => ?_, fun j j' l m e e' => ?_⟩
  · rcases get_set e with ⟨rfl, e1, hi⟩ | ⟨n, e1⟩
    · cases e1
      exact ⟨v, List.getElem?_set_self (by omega), d⟩
    · obtain ⟨w, q1, q2⟩ := h1 j r e1
      exact ⟨w, by rw [List.getElem?_set_ne (Ne.symm n)]; exact q1, q2⟩
  · rcases get_set e with ⟨_, e1, _⟩ | ⟨_, e1⟩
    · cases e1
    · rcases get_set e' with ⟨_, e2, _⟩ | ⟨_, e2⟩
      · cases e2
      · exact h2 j j' l m e1 e2

/-- the addresses with one changed -/
def setA (A : Nat → Addr) (i : Nat) (p : Addr) : Nat → Addr := fun j => if j = i then p else A j
theorem setA_same {A : Nat → Addr} {i : Nat} {p : Addr} : setA A i p i = p := if_pos rfl
theorem setA_ne {A : Nat → Addr} {i j : Nat} {p : Addr} (h : j ≠ i) : setA A i p j = A j := if_neg h
/-- a new owned list goes to a slot; H: the heap ahead of its making -/
theorem RepS.put_own {p : Addr} {xs : List V} {l : List D} {i : Nat} {H1 : Hp} (h : RepS K R F0 H0 F H σ s) (g : Gr K R F1 H1 F H) (old : RepS K R F0 H0 F1 H1 σ s) (hp : H p = some (.lst xs)) (d : DpAll K F xs l) (hF : F p = none) (hn : H1 p = none) :
    RepS K R F0 H0 F H (σ.set i (some (.ref p))) (s.set i (some (.own l))) := by
  obtain ⟨A, h1, h2⟩ := old.sl
  have hd : ¬ R.a = some p := fun z => by
    obtain ⟨ys, _, _, e, _⟩ := old.g.ok.inv p z
    rw [hn] at e; cases e
  have h0 : H0 p = none := by
    cases e : H0 p with
    | none => rfl
    | some o => rw [old.g.keep p o hd e] at hn; cases hn
  have hl := h.len
  refine ⟨h.g, h.live, by rw [List.length_set, List.length_set]; exact hl, setA A i p, fun j r e => ?_, fun j j' l m e e' q => ?_⟩
  · rcases get_set e with ⟨rfl, e1, hi⟩ | ⟨n, e1⟩
    · cases e1
      exact ⟨_, List.getElem?_set_self (by omega), by rw [setA_same], by rw [setA_same]; exact h0, by rw [setA_same]; exact hF, xs, by rw [setA_same]; exact hp, d⟩
    · obtain ⟨w, q1, q2⟩ := h1 j r e1
      exact ⟨w, by rw [List.getElem?_set_ne (Ne.symm n)]; exact q1, by rw [setA_ne n]; exact q2.grow h.live g⟩
  · have apart : ∀ (j : Nat) (l : List D), s[j]? = some (some (.own l)) → A j ≠ p := fun j l e z => by
      obtain ⟨w, _, _, _, _, ys, q, _⟩ := h1 j _ e
      rw [z, hn] at q; cases q
    rcases get_set e with ⟨rfl, e1, _⟩ | ⟨n, e1⟩
    · rcases get_set e' with ⟨rfl, e2, _⟩ | ⟨n', e2⟩
      · rfl
      · rw [setA_same, setA_ne n'] at q; exact absurd q.symm (apart j' _ e2)
    · rcases get_set e' with ⟨rfl, e2, _⟩ | ⟨n', e2⟩
      · rw [setA_same, setA_ne n] at q; exact absurd q (apart j _ e1)
      · rw [setA_ne n, setA_ne n'] at q; exact h2 j j' _ _ e1 e2 q
theorem RepS.put_none {i : Nat} {v : Option V} (h : RepS K R F0 H0 F H σ s) : RepS K R F0 H0 F H (σ.set i v) (s.set i none) := by
  obtain ⟨A, h1, h2⟩ := h.sl
  have hl := h.len
  refine ⟨h.g, h.live, by rw [List.length_set, List.length_set]; exact hl, A, fun j r e => ?_, fun j j' l m e e' => ?_⟩
  · rcases get_set e with ⟨rfl, e1, hi⟩ | ⟨n, e1⟩
    · cases e1
    · obtain ⟨w, q1, q2⟩ := h1 j r e1
      exact ⟨w, by rw [List.getElem?_set_ne (Ne.symm n)]; exact q1, q2⟩
  · rcases get_set e with ⟨_, e1, _⟩ | ⟨_, e1⟩
    · cases e1
    · rcases get_set e' with ⟨_, e2, _⟩ | ⟨_, e2⟩
      · cases e2
      · exact h2 j j' l m e1 e2
/-- an owned list's own place -/
theorem RepS.own_at {i : Nat} {l : List D} (h : RepS K R F0 H0 F H σ s) (e : s[i]? = some (some (.own l))) : ∃ a xs, σ[i]? = some (some (.ref a)) ∧ H a = some (.lst xs) ∧ DpAll K F xs l ∧ F a = none ∧ H0 a = none ∧ ¬ R.a = some a ∧
    ∀ ys m, DpAll K F ys m → RepS K R F0 H0 F (upd H a (.lst ys)) σ (s.set i (some (.own m))) := by
  obtain ⟨A, h1, h2⟩ := h.sl
  obtain ⟨v, q1, rfl, q2, q3, xs, q4, q5⟩ := h1 i _ e
  have hd : ¬ R.a = some (A i) := fun z => h.live _ z q2
  refine ⟨A i, xs, q1, q4, q5, q3, q2, hd, fun ys m d => ?_⟩
  have hi : i < s.length := (List.getElem?_eq_some_iff.mp e).1
  have hF : ∀ b o, F b = some o → b ≠ A i := fun b o z w => by rw [w, q3] at z; cases z
  refine ⟨⟨h.g.ex, fun b o n z => ?_, h.g.new, ⟨fun b o z => ?_, h.g.ok.dis, fun b hb => ?_, fun b hb => ?_⟩⟩, h.live, by rw [List.length_set]; exact h.len, A, fun j r e' => ?_, fun j j' l' m' e1 e2 => ?_⟩
  · have nb : b ≠ A i := fun w => by rw [w, q2] at z; cases z
    rw [upd_ne nb]; exact h.g.keep b o n z
  · rw [upd_ne (hF b o z)]; exact h.g.ok.sub b o z
  · have nb : b ≠ A i := fun w => hd (w ▸ hb)
    rw [upd_ne nb]; exact h.g.ok.inv b hb
  · by_cases n : b = A i
    · rw [n, upd_same]; simp
    · rw [upd_ne n]; exact h.g.ok.alive b hb
  · rcases get_set e' with ⟨rfl, e3, _⟩ | ⟨n, e3⟩
    · cases e3
      exact ⟨_, q1, rfl, q2, q3, ys, upd_same, d⟩
    · obtain ⟨w, z1, z2⟩ := h1 j r e3
      refine ⟨w, z1, ?_⟩
      cases r with
      | d x => exact z2
      | hold V => exact z2
      | exc a dd fs => exact z2
      | own l2 =>
        obtain ⟨y1, y2, y3, zs, y4, y5⟩ := z2
        have nb : A j ≠ A i := fun w => n (h2 j i _ _ e3 e w)
        exact ⟨y1, y2, y3, zs, by rw [upd_ne nb]; exact y4, y5⟩
  · have f1 : ∃ l, s[j]? = some (some (.own l)) := by
      rcases get_set e1 with ⟨rfl, _, _⟩ | ⟨_, z⟩
      · exact ⟨l, e⟩
      · exact ⟨_, z⟩
    have f2 : ∃ l, s[j']? = some (some (.own l)) := by
      rcases get_set e2 with ⟨rfl, _, _⟩ | ⟨_, z⟩
      · exact ⟨l, e⟩
      · exact ⟨_, z⟩
    obtain ⟨_, f1⟩ := f1
    obtain ⟨_, f2⟩ := f2
    exact h2 j j' _ _ f1 f2
/-- an owned list is frozen where it stands -/
theorem RepS.frz {i : Nat} {l : List D} (h : RepS K R F0 H0 F H σ s) (e : s[i]? = some (some (.own l))) : ∃ F', RepS K R F0 H0 F' H σ (s.set i (some (.d (.list l)))) ∧ Sub F F' := by
  obtain ⟨A, h1, h2⟩ := h.sl
  obtain ⟨v, q1, rfl, q2, q3, xs, q4, q5⟩ := h1 i _ e
  have hd : ¬ R.a = some (A i) := fun z => h.live _ z q2
  have hs : Sub F (upd F (A i) (.lst xs)) := Sub.new q3
  have ok' := h.g.ok.freeze q4 q3 hd
  have new' : ∀ b o, (upd F (A i) (.lst xs)) b = some o → F0 b = some o ∨ H0 b = none := fun b o z => by
    by_cases hb : b = A i
    · rw [hb]; exact .inr q2
    · rw [upd_ne hb] at z; exact h.g.new b o z
  refine ⟨upd F (A i) (.lst xs), ⟨⟨h.g.ex.trans hs, h.g.keep, new', ok'⟩, h.live, by rw [List.length_set]; exact h.len, A, fun j r e' => ?_, fun j j' l' m' e1 e2 => ?_⟩, hs⟩
  · rcases get_set e' with ⟨rfl, e3, _⟩ | ⟨n, e3⟩
    · cases e3
      exact ⟨_, q1, .lst (.inl (.inl upd_same)) (q5.subH hs)⟩
    · obtain ⟨w, z1, z2⟩ := h1 j r e3
      refine ⟨w, z1, ?_⟩
      cases r with
      | d x => exact Dp.subH z2 hs
      | hold V => exact z2
      | exc a dd fs => exact RepE.sub z2 hs
      | own l2 =>
        obtain ⟨y1, y2, y3, zs, y4, y5⟩ := z2
        have nb : A j ≠ A i := fun w => n (h2 j i _ _ e3 e w)
        exact ⟨y1, y2, by rw [upd_ne nb]; exact y3, zs, y4, y5.subH hs⟩
  · rcases get_set e1 with ⟨_, z, _⟩ | ⟨_, z⟩
    · cases z
    · rcases get_set e2 with ⟨_, w, _⟩ | ⟨_, w⟩
      · cases w
      · exact h2 j j' _ _ z w
end
end Pl

namespace Pl
open PySem L2
section
variable {X : Cx} {W : WX} {e a b c : Expr} {st : Stmt} {rest body orelse : List Stmt} {ta tb tc te : TE} {ua ub uc ue : UE} {t t' : TS} {u u' : US} {tt : TT} {ut : UT} {pos p : Pos}
/-! ### blocks and small statements -/
def uNext : US := fun k s => k.nx s
def uSeq (u u' : US) : US := fun k s => u { k with nx := u' k } s
theorem Cont.next {K : Fr} {R : Rg} {F0 H0 : Hp} {k : KS} {D : Ends} {n : Sl → Prop} {N : St → Hp → Prop} (c : Cont K W R F0 H0 k D) (h : ∀ F H σ s, RepS K R F0 H0 F H σ s → n s → N σ H) : Cont K W R F0 H0 { k with nx := n } { D with nx := N } := ⟨h, c.rt, c.bk, c.ct, c.ex⟩
theorem dss_nil : DSs X W [] tNext uNext := ⟨pss_nil, fun R F0 H0 F H σ s k D rs c q => c.nx F H σ s rs q⟩
theorem dss_cons (h : DS X W st t u) (h' : DSs X W rest t' u') : DSs X W (st :: rest) (tSeq t t') (uSeq u u') :=
  ⟨pss_cons h.ps h'.ps, fun R F0 H0 F H σ s k D rs c q => h.snd R F0 H0 F H σ s _ _ rs (c.next fun F' H' σ' s' rs' q' => h'.snd R F0 H0 F' H' σ' s' k D rs' c q') q⟩
theorem dss_one (h : DS X W st t u) : DSs X W [st] t u := ⟨pss_one h.ps, h.snd⟩
theorem ds_pass : DS X W (.Pass pos) tNext uNext := ⟨ps_pass, fun R F0 H0 F H σ s k D rs c q => c.nx F H σ s rs q⟩
theorem ds_doc {x : Str} {j pos'} : DS X W (.Expr (.Constant (.str x) j pos) pos') tNext uNext := ⟨ps_doc, fun R F0 H0 F H σ s k D rs c q => c.nx F H σ s rs q⟩
def uBreak : US := fun k s => k.bk s
def uCont : US := fun k s => k.ct s
theorem ds_break : DS X W (.Break pos) tBreak uBreak := ⟨ps_break, fun R F0 H0 F H σ s k D rs c q => c.bk F H σ s rs q⟩
theorem ds_continue : DS X W (.Continue pos) tCont uCont := ⟨ps_continue, fun R F0 H0 F H σ s k D rs c q => c.ct F H σ s rs q⟩
/-- an expression read in a statement -/
def ev (m : Bool) (ue : UE) (k : KS) (s : Sl) (P : U → Prop) : Prop := ue (vw m s) (fun r => okU m r ∧ P r) (fun x => okX m x ∧ k.ex x s)
def evT (m : Bool) (ut : UT) (k : KS) (s : Sl) (P : Bool → Prop) : Prop := ut (vw m s) P (fun x => okX m x ∧ k.ex x s)
def uDrop (m : Bool) (ue : UE) : US := fun k s => ev m ue k s fun _ => k.nx s
theorem ds_expr (m : Bool) (h : DE X W e te ue) (hs : swapsWith e none pos.line X.env = pure false := by rfl) : DS X W (.Expr e pos) (tDrop te) (uDrop m ue) :=
  ⟨ps_expr h.pe hs, fun R F0 H0 F H σ s k D rs c q => h.snd.run m rs c (P := fun _ => k.nx s) q fun v r F' H' g rs' rep p => c.nx F' H' σ s rs' p⟩
def uRet (m : Bool) (ue : UE) : US := fun k s => ev m ue k s fun r => k.rt r s
theorem ds_ret (m : Bool) (h : DE X W e te ue) : DS X W (.Return (some e) pos) (tRet te) (uRet m ue) :=
  ⟨ps_ret h.pe, fun R F0 H0 F H σ s k D rs c q => h.snd.run m rs c (P := fun r => k.rt r s) q fun v r F' H' g rs' rep p => c.rt F' H' σ s v r rs' (rep.back rs.g) p⟩
/-- return x, x an owned list: it is handed out as owned -/
def uRetO (i : Nat) : US := fun k s => match s[i]? with
  | some (some (.own l)) => k.rt (.own l) s
  | _ => False
theorem ds_retO {x : Str} (i : Nat) (hN : X.N[i]? = some x := by rfl) (hv : Vis X.env.scope x := by first | exact .inl rfl | exact .inr (.inl rfl) | exact .inr (.inr rfl))
    (hd : (x == ("__debug__" : Str)) = false := by decide) (hcd : (x == ("__classdict__" : Str)) = false := by decide) : DS X W (.Return (some (.Name x p)) pos) (tRet (tVar i)) (uRetO i) := by
  refine ⟨ps_ret (pe_var hN hv hd hcd), fun R F0 H0 F H σ s k D rs c q => ?_⟩
  unfold uRetO at q
  split at q
  · next l e =>
    obtain ⟨a, xs, h1, h2, h3, h4, h5, h6, _⟩ := rs.own_at e
    exact ⟨_, h1, c.rt F H σ s _ (.own l) rs ⟨a, xs, rfl, h2, h3, h4, h5, h6⟩ q⟩
  · exact q.elim
def uRetN : US := fun k s => k.rt (.d .none) s
theorem ds_retN : DS X W (.Return none pos) tRetN uRetN := ⟨ps_retN, fun R F0 H0 F H σ s k D rs c q => c.rt F H σ s .non (.d .none) rs .non q⟩
def uIfS (m : Bool) (ut : UT) (u u' : US) : US := fun k s => evT m ut k s fun b => if b = true then u k s else u' k s
theorem ds_if (m : Bool) (hc : DT X W c tt ut) (ha : DSs X W body t u) (hb : DSs X W orelse t' u') : DS X W (.If c body orelse pos) (tIfS tt t t') (uIfS m ut u u') :=
  ⟨ps_if hc.pt ha.ps hb.ps, fun R F0 H0 F H σ s k D rs c q => hc.snd.run m rs c (P := fun b => if b = true then u k s else u' k s) q fun b F' H' rs' p => by
    cases b with
    | true => exact ha.snd R F0 H0 F' H' σ s k D rs' c p
    | false => exact hb.snd R F0 H0 F' H' σ s k D rs' c p⟩
/-- x = e, kept as data (a new list is frozen) -/
def frzU : U → Option D
  | .d x => some x
  | .own l => some (.list l)
  | .hold _ => none
  | .exc _ _ _ => none
def uSet (m : Bool) (i : Nat) (ue : UE) : US := fun k s => ev m ue k s fun r => onD r fun x => k.nx (s.set i (some (.d x)))
theorem snd_set {K : Fr} (m : Bool) {i : Nat} (h : SndE K W te ue) : SndS K W (tAsg te (gName i)) (uSet m i ue) := fun R F0 H0 F H σ s k D rs c q =>
  h.run m rs c (P := fun r => onD r fun x => k.nx (s.set i (some (.d x)))) q fun v r F' H' g rs' rep p => by
    cases r with
    | hold V => exact p.elim
    | exc a dd fs => exact p.elim
    | d x => exact c.nx F' H' _ _ (rs'.put_d rep) p
    | own l =>
      obtain ⟨pp, xs, rfl, h1, h2, h3, h4, h5⟩ := rep
      by_cases hi : i < s.length
      · have ro := rs'.put_own (i := i) g rs h1 h2 h3 h4
        obtain ⟨F2, rf, _⟩ := ro.frz (i := i) (l := l) (by rw [List.getElem?_set_self hi])
        rw [List.set_set] at rf
        exact c.nx F2 H' _ _ rf p
      · have e1 : s.set i (some (.d (.list l))) = s := List.set_eq_of_length_le (by omega)
        have e2 : σ.set i (some (V.ref pp)) = σ := List.set_eq_of_length_le (by rw [rs.len]; omega)
        have p' : k.nx (s.set i (some (.d (.list l)))) := p
        rw [e1] at p'
        show D.nx (σ.set i (some (V.ref pp))) H'
        rw [e2]
        exact c.nx F' H' _ _ rs' p'
/-- x = e, a new list kept as owned -/
def uSetO (m : Bool) (i : Nat) (ue : UE) : US := fun k s => ev m ue k s fun r => match r with
  | .hold _ => k.nx (s.set i none)
  | .exc _ _ _ => k.nx (s.set i none)
  | r => k.nx (s.set i (some r))
theorem snd_setO {K : Fr} (m : Bool) {i : Nat} (h : SndE K W te ue) : SndS K W (tAsg te (gName i)) (uSetO m i ue) := fun R F0 H0 F H σ s k D rs c q =>
  h.run m rs c (P := fun r => match r with
  | .hold _ => k.nx (s.set i none)
  | .exc _ _ _ => k.nx (s.set i none)
  | r => k.nx (s.set i (some r))) q fun v r F' H' g rs' rep p => by
    cases r with
    | hold V => exact c.nx F' H' _ _ rs'.put_none p
    | exc a dd fs => exact c.nx F' H' _ _ rs'.put_none p
    | d x => exact c.nx F' H' _ _ (rs'.put_d rep) p
    | own l =>
      obtain ⟨pp, xs, rfl, h1, h2, h3, h4, h5⟩ := rep
      exact c.nx F' H' _ _ (rs'.put_own (i := i) g rs h1 h2 h3 h4) p
theorem ds_set {x : Str} {p' : Pos} (m : Bool) (i : Nat) (h : DE X W e te ue) (hN : X.N.Nodup) (hi : X.N[i]? = some x := by rfl) (hx : Loc X.env.scope x := by first | exact .inl rfl | exact .inr rfl) (hs : swapsWith e (some (.Name x p')) pos.line X.env = pure false := by rfl)
    (hf : X.fn x = true ∨ X.env.scope.names.lookup x = some .local := by first | exact .inl rfl | exact .inr rfl) : DS X W (.Assign [.Name x p'] e pos) (tAsg te (gName i)) (uSet m i ue) := ⟨ps_set hN hi hx h.pe hs hf, snd_set m h.snd⟩
theorem ds_setO {x : Str} {p' : Pos} (m : Bool) (i : Nat) (h : DE X W e te ue) (hN : X.N.Nodup) (hi : X.N[i]? = some x := by rfl) (hx : Loc X.env.scope x := by first | exact .inl rfl | exact .inr rfl) (hs : swapsWith e (some (.Name x p')) pos.line X.env = pure false := by rfl)
    (hf : X.fn x = true ∨ X.env.scope.names.lookup x = some .local := by first | exact .inl rfl | exact .inr rfl) : DS X W (.Assign [.Name x p'] e pos) (tAsg te (gName i)) (uSetO m i ue) := ⟨ps_set hN hi hx h.pe hs hf, snd_setO m h.snd⟩
/-- x = y, y an owned list that is not asked again: it goes over -/
def uMove (i j : Nat) : US := fun k s => match s[j]? with
  | some (some (.own l)) => i ≠ j ∧ k.nx ((s.set j none).set i (some (.own l)))
  | _ => False
theorem RepS.move {K : Fr} {R : Rg} {F0 H0 F H : Hp} {σ : St} {s : Sl} {i j : Nat} {l : List D} (h : RepS K R F0 H0 F H σ s) (e : s[j]? = some (some (.own l))) (n : i ≠ j) : ∃ v, σ[j]? = some (some v) ∧ RepS K R F0 H0 F H (σ.set i (some v)) ((s.set j none).set i (some (.own l))) := by
  obtain ⟨A, h1, h2⟩ := h.sl
  obtain ⟨v, q1, q2⟩ := h1 j _ e
  have hl := h.len
  refine ⟨v, q1, h.g, h.live, by simp [hl], setA A i (A j), fun m r e' => ?_, fun m m' l1 l2 e1 e2 z => ?_⟩
  · rcases get_set e' with ⟨rfl, e3, hi⟩ | ⟨nm, e3⟩
    · cases e3
      rw [List.length_set] at hi
      exact ⟨v, List.getElem?_set_self (by omega), by rw [setA_same]; exact q2⟩
    · rcases get_set e3 with ⟨_, z, _⟩ | ⟨nj, e4⟩
      · cases z
      · obtain ⟨w, z1, z2⟩ := h1 m r e4
        exact ⟨w, by rw [List.getElem?_set_ne (Ne.symm nm)]; exact z1, by rw [setA_ne nm]; exact z2⟩
  · have key : ∀ {m : Nat} {l1 : List D}, ((s.set j none).set i (some (.own l1)))[m]? = some (some (.own l1)) → True := fun _ => trivial
    rcases get_set e1 with ⟨rfl, _, _⟩ | ⟨n1, e3⟩
    · rcases get_set e2 with ⟨rfl, _, _⟩ | ⟨n2, e4⟩
      · rfl
      · rcases get_set e4 with ⟨_, y, _⟩ | ⟨nj, e5⟩
        · cases y
        · rw [setA_same, setA_ne n2] at z
          exact absurd (h2 j m' _ _ e e5 z) (fun w => nj w.symm)
    · rcases get_set e3 with ⟨_, y, _⟩ | ⟨nj, e5⟩
      · cases y
      · rcases get_set e2 with ⟨rfl, _, _⟩ | ⟨n2, e4⟩
        · rw [setA_same, setA_ne n1] at z
          exact absurd (h2 m j _ _ e5 e z) nj
        · rcases get_set e4 with ⟨_, y, _⟩ | ⟨nj2, e6⟩
          · cases y
          · rw [setA_ne n1, setA_ne n2] at z
            exact h2 m m' _ _ e5 e6 z
theorem ds_move {x y : Str} {p' p2 : Pos} (i j : Nat) (hN : X.N.Nodup) (hi : X.N[i]? = some x := by rfl) (hj : X.N[j]? = some y := by rfl) (hx : Loc X.env.scope x := by first | exact .inl rfl | exact .inr rfl) (hv : Vis X.env.scope y := by first | exact .inl rfl | exact .inr (.inl rfl) | exact .inr (.inr rfl))
    (hs : swapsWith (.Name y p2) (some (.Name x p')) pos.line X.env = pure false := by rfl) (hf : X.fn x = true ∨ X.env.scope.names.lookup x = some .local := by first | exact .inl rfl | exact .inr rfl)
    (hd : (y == ("__debug__" : Str)) = false := by decide) (hcd : (y == ("__classdict__" : Str)) = false := by decide) : DS X W (.Assign [.Name x p'] (.Name y p2) pos) (tAsg (tVar j) (gName i)) (uMove i j) := by
  refine ⟨ps_set hN hi hx (pe_var hj hv hd hcd) hs hf, fun R F0 H0 F H σ s k D rs c q => ?_⟩
  unfold uMove at q
  split at q
  · next l e =>
    obtain ⟨v, h1, h2⟩ := rs.move e q.1
    exact ⟨v, h1, c.nx F H _ _ h2 q.2⟩
  · exact q.elim
/-- from here on an owned list is data -/
def uFrz (i : Nat) (u : US) : US := fun k s => match s[i]? with
  | some (some (.own l)) => u k (s.set i (some (.d (.list l))))
  | _ => u k s
theorem dss_frz (i : Nat) (h : DSs X W rest t u) : DSs X W rest t (uFrz i u) := by
  refine ⟨h.ps, fun R F0 H0 F H σ s k D rs c q => ?_⟩
  unfold uFrz at q
  split at q
  · next l e =>
    obtain ⟨F2, rf, _⟩ := rs.frz e
    exact h.snd R F0 H0 F2 H σ _ k D rf c q
  · exact h.snd R F0 H0 F H σ s k D rs c q
/-- fewer facts: a slot is forgotten -/
def uForget (i : Nat) (u : US) : US := fun k s => u k (s.set i none)

/-! ### owned lists changed -/
/-- x.append(e), x in slot i -/
def uApp (m : Bool) (i : Nat) (ue : UE) : US := fun k s => match s[i]? with
  | some (some (.own l)) => ev m ue k s fun r => onD r fun x => l.length < sizeLine ∧ k.nx (s.set i (some (.own (l ++ [x]))))
  | _ => False
theorem RepS.dat {K : Fr} {R : Rg} {F0 H0 F H F1 H1 : Hp} {σ : St} {s : Sl} {v : V} {r : U} {q : D → Prop} (old : RepS K R F0 H0 F1 H1 σ s) (g : Gr K R F1 H1 F H) (rep : RepR K R H1 F H v r) (p : onD r q) : ∃ F2 x, Gr K R F1 H1 F2 H ∧ RepS K R F0 H0 F2 H σ s ∧ Dp K F2 v x ∧ q x := by
  obtain ⟨F2, x, g2, d, p2⟩ := rep.frz g p
  exact ⟨F2, x, g2, old.grow g2, d, p2⟩
section
variable {x : Str} {p1 p2 p3 p4 : Pos}
theorem ds_app (m : Bool) (i : Nat) (h : DE X W e te ue) (hN : X.N[i]? = some x := by rfl) (hv : Vis X.env.scope x := by first | exact .inl rfl | exact .inr (.inl rfl) | exact .inr (.inr rfl))
    (hd : (x == ("__debug__" : Str)) = false := by decide) (hcd : (x == ("__classdict__" : Str)) = false := by decide)
    (hs : swapsWith (.Call (.Attribute (.Name x p1) "append" p2) [e] [] p3) none p4.line X.env = pure false := by rfl) (he : starEach (e :: []) X.env = (false, eval e X.env) :: starEach [] X.env := by rfl) (hpl : (backTo p3 (starEach [] X.env)).any (·.1) = false := by rfl)
    (hbase : attributeBase (.Name x p1) "append" X.env (eval (.Name x p1) X.env) = eval (.Name x p1) X.env := by rfl)
    (hfew : ((backTo p3 (starEach (e :: []) X.env)).all (fun x => !x.1) && (backToKw p3 (keywordEach [] X.env)).all (fun x => x.1.isSome)
      && decide ((e :: []).length + ([] : List Keyword).length + (if ([] : List Keyword).isEmpty then 0 else 1) < 30)) = true := by rfl)
    (hline : (p2.endLine == p3.line) = true := by rfl) :
    DS X W (.Expr (.Call (.Attribute (.Name x p1) "append" p2) [e] [] p3) p4) (tDrop (tBM X.K "list" rAppend (tVar i) (tCons te tNil))) (uApp m i ue) := by
  refine ⟨ps_expr (pe_bm PySem.F.plainAttrs_list PySem.F.slot_list_append PySem.F.type_list_append mt_append (pe_var hN hv hd hcd) (pa_cons h.pe pa_nil he) hbase hfew hline he hpl) hs, fun R F0 H0 F H σ s k D rs c q => ?_⟩
  unfold uApp at q
  split at q
  · next l el =>
    obtain ⟨a, xs, h1, h2, h3, h4, h5, h6, h7⟩ := rs.own_at el
    refine ⟨_, h1, .inl ⟨rfl, _, .inl (.inl h2)⟩, ?_⟩
    refine h.snd.run m rs c (P := fun r => onD r fun x => l.length < sizeLine ∧ k.nx (s.set i (some (.own (l ++ [x]))))) q fun v r F' H' g rs' rep p => ?_
    obtain ⟨F2, y, g2, rs2, d2, p2⟩ := rs.dat g rep p
    obtain ⟨a', ys, z1, z2, z3, z4, z5, z6, z7⟩ := rs2.own_at el
    rw [h1] at z1
    cases z1
    refine ⟨a, ys, v, rfl, rfl, z2, by rw [z3.lengthH]; exact p2.1, ?_⟩
    exact c.nx F2 _ _ _ (z7 _ _ (z3.appendH (.cons d2 .nil))) p2.2
  · exact q.elim
/-- x.insert(n, e), n not below 0 -/
def uIns (m : Bool) (i : Nat) (ui ue : UE) : US := fun k s => match s[i]? with
  | some (some (.own l)) => ev m ui k s fun r => onD r fun n => ev m ue k s fun r2 => onD r2 fun x => l.length < sizeLine ∧ match n with
    | .int j => 0 ≤ j ∧ j < 2 ^ 63 ∧ k.nx (s.set i (some (.own (l.take j.toNat ++ x :: l.drop j.toNat))))
    | _ => False
  | _ => False
def rInsA : V → List V → Hp → VK → Prop := fun x vs H Q => ∃ (l : Addr) (xs : List V) (i : Int) (y : V), x = .ref l ∧ vs = [.int i, y] ∧ H l = some (.lst xs) ∧ xs.length < sizeLine ∧ 0 ≤ i ∧ i < 2 ^ 63 ∧ Q .non (upd H l (.lst (xs.take i.toNat ++ [y] ++ xs.drop i.toNat)))
theorem ds_ins {ti : TE} {ui : UE} {n : Expr} (m : Bool) (i : Nat) (hn : DE X W n ti ui) (h : DE X W e te ue) (hN : X.N[i]? = some x := by rfl) (hv : Vis X.env.scope x := by first | exact .inl rfl | exact .inr (.inl rfl) | exact .inr (.inr rfl))
    (hd : (x == ("__debug__" : Str)) = false := by decide) (hcd : (x == ("__classdict__" : Str)) = false := by decide)
    (hs : swapsWith (.Call (.Attribute (.Name x p1) "insert" p2) [n, e] [] p3) none p4.line X.env = pure false := by rfl) (he : starEach (n :: [e]) X.env = (false, eval n X.env) :: starEach [e] X.env := by rfl) (he2 : starEach (e :: []) X.env = (false, eval e X.env) :: starEach [] X.env := by rfl) (hpl : (backTo p3 (starEach [e] X.env)).any (·.1) = false := by rfl)
    (hbase : attributeBase (.Name x p1) "insert" X.env (eval (.Name x p1) X.env) = eval (.Name x p1) X.env := by rfl)
    (hfew : ((backTo p3 (starEach (n :: [e]) X.env)).all (fun x => !x.1) && (backToKw p3 (keywordEach [] X.env)).all (fun x => x.1.isSome)
      && decide ((n :: [e]).length + ([] : List Keyword).length + (if ([] : List Keyword).isEmpty then 0 else 1) < 30)) = true := by rfl)
    (hline : (p2.endLine == p3.line) = true := by rfl) :
    DS X W (.Expr (.Call (.Attribute (.Name x p1) "insert" p2) [n, e] [] p3) p4) (tDrop (tBM X.K "list" rInsA (tVar i) (tCons ti (tCons te tNil)))) (uIns m i ui ue) := by
  refine ⟨ps_expr (pe_bm PySem.F.plainAttrs_list PySem.F.slot_list_insert PySem.F.type_list_insert mt_insert (pe_var hN hv hd hcd) (pa_cons hn.pe (pa_cons h.pe pa_nil he2) he) hbase hfew hline he hpl) hs, fun R F0 H0 F H σ s k D rs c q => ?_⟩
  unfold uIns at q
  split at q
  · next l el =>
    obtain ⟨a, xs, h1, h2, h3, h4, h5, h6, h7⟩ := rs.own_at el
    refine ⟨_, h1, .inl ⟨rfl, _, .inl (.inl h2)⟩, ?_⟩
    refine hn.snd.run m rs c q fun v r F' H' g rs' rep p => ?_
    obtain ⟨F2, y, g2, rs2, d2, p2⟩ := rs.dat g rep p
    refine h.snd.run m rs2 c p2 fun w r F3 H3 g3 rs3 rep3 p3 => ?_
    obtain ⟨F4, z, g4, rs4, d4, p4⟩ := rs2.dat g3 rep3 p3
    obtain ⟨a', ys, z1, z2, z3, z4, z5, z6, z7⟩ := rs4.own_at el
    rw [h1] at z1
    cases z1
    cases d2 with
    | int j =>
      obtain ⟨b1, b2, b3, b4⟩ := p4
      refine ⟨a, ys, j, w, rfl, rfl, z2, by rw [z3.lengthH]; exact b1, b2, b3, ?_⟩
      have z8 := z7 (ys.take j.toNat ++ [w] ++ ys.drop j.toNat) (l.take j.toNat ++ z :: l.drop j.toNat) (by
        have t1 := ((z3.takeH j.toNat).appendH (.cons d4 .nil)).appendH (z3.dropH j.toNat)
        simpa using t1)
      exact c.nx F4 _ _ _ z8 b4
    | _ => exact p4.2.elim
  · exact q.elim
/-- x[n] = e -/
def uPut (m : Bool) (i : Nat) (ui ue : UE) : US := fun k s => match s[i]? with
  | some (some (.own l)) => ev m ue k s fun r => onD r fun x => ev m ui k s fun r2 => onD r2 fun n => match n with
    | .int j => match ixN l.length j with
      | some n => k.nx (s.set i (some (.own (l.set n x))))
      | none => False
    | _ => False
  | _ => False
theorem ds_put {ti : TE} {ui : UE} {n : Expr} (m : Bool) (i : Nat) (hn : DE X W n ti ui) (h : DE X W e te ue) (hN : X.N[i]? = some x := by rfl) (hv : Vis X.env.scope x := by first | exact .inl rfl | exact .inr (.inl rfl) | exact .inr (.inr rfl))
    (hd : (x == ("__debug__" : Str)) = false := by decide) (hcd : (x == ("__classdict__" : Str)) = false := by decide)
    (hs : swapsWithSole [.Subscript (.Name x p1) n p2] e p4.line X.env = pure false := by rfl) (hw : swappedStores [.Subscript (.Name x p1) n p2] e X.env = pure none := by rfl)
    (h1 : (assignEach [.Subscript (.Name x p1) n p2] X.env).map (·.2) = [assign (.Subscript (.Name x p1) n p2) X.env] := by rfl)
    (ha : ∀ v, assign (.Subscript (.Name x p1) n p2) X.env v = (do
      let ov ← holding [v] (eval (.Name x p1) X.env)
      let iv ← holding [v, ov] (eval n X.env)
      standAt p2
      holding [v, ov, iv] (setItem ov iv v)
      release [v, ov, iv] []) := by intro _; rfl) :
    DS X W (.Assign [.Subscript (.Name x p1) n p2] e p4) (tAsg te (gSub (tVar i) ti rSetL)) (uPut m i ui ue) := by
  refine ⟨ps_asg h.pe (pg_sub (pe_var hN hv hd hcd) hn.pe set_list ha) hs hw h1, fun R F0 H0 F H σ s k D rs c q => ?_⟩
  unfold uPut at q
  split at q
  · next l el =>
    refine h.snd.run m rs c (P := fun r => onD r fun x => ev m ui k s fun r2 => onD r2 fun n => match n with
    | .int j => match ixN l.length j with
      | some n => k.nx (s.set i (some (.own (l.set n x))))
      | none => False
    | _ => False) q fun v r F' H' g rs' rep p => ?_
    obtain ⟨F2, y, g2, rs2, d2, p2⟩ := rs.dat g rep p
    obtain ⟨a, xs, h1, h2, h3, h4, h5, h6, h7⟩ := rs2.own_at el
    refine ⟨_, h1, ?_⟩
    refine hn.snd.run m rs2 c p2 fun w r F3 H3 g3 rs3 rep3 p3 => ?_
    obtain ⟨F4, z, g4, rs4, d4, p4⟩ := rs2.dat g3 rep3 p3
    obtain ⟨a', ys, z1, z2, z3, z4, z5, z6, z7⟩ := rs4.own_at el
    rw [h1] at z1
    cases z1
    cases d4 with
    | int j =>
      dsimp only at p4
      split at p4
      · next jn hj => exact ⟨a, ys, j, jn, rfl, rfl, z2, by rw [z3.lengthH]; exact hj, c.nx F4 _ _ _ (z7 _ _ (z3.setH (d2.subH g4.ex))) p4⟩
      · exact p4.elim
    | _ => exact p4.elim
  · exact q.elim
/-- an item of a list, as an operation on it asks it -/
theorem pget_list : PGet X (rIxL X.K) := by
  intro pins s σ H o i ov iv Q I ro ri h
  obtain ⟨p, xs, j, z, rfl, rfl, hq, he, q⟩ := h
  cases ro
  obtain ⟨t, rfl⟩ := ri
  obtain ⟨its, r, pl, hz⟩ := I.list hq
  obtain ⟨n, h1, h2, h3, h4, h5⟩ := atI_get he
  obtain ⟨w, ew, rw'⟩ := r.get h2
  have hl := r.length
  have hn := line63
  have fin : EP X pins σ Q w s := ⟨z, H, I, rw', q⟩
  by_cases h0 : 0 ≤ j
  · have hj : j.toNat = n := by
      rw [seqIndex_of h0 h5] at h1
      exact Option.some.inj h1
    exact wpAny_getItem_list pl.isList h0 (by omega) (by rw [hj]; simpa using ew) fin
  · have hj : (j + (its.toArray.size : Int)).toNat = n := by
      rw [seqIndex_neg (by omega) h4] at h1
      rw [List.size_toArray, ← hl]
      exact Option.some.inj h1
    exact wpAny_getItem_list_neg pl.isList (by omega) (by rw [List.size_toArray] <;> omega) (by omega) (by rw [hj]; simpa using ew) fin
/-- in place, of ints -/
structure DIp (X : Cx) (op : Operator) (f : Int → Int → Int) : Prop where
  ip : PIp X op (ipI f)
theorem dip_add : DIp X .Add (fun i j => i + j) := ⟨ip_add⟩
theorem dip_sub : DIp X .Sub (fun i j => i - j) := ⟨ip_sub⟩
/-- x[n] += e, of ints -/
def uPutA (f : Int → Int → Int) (m : Bool) (i : Nat) (ui ue : UE) : US := fun k s => match s[i]? with
  | some (some (.own l)) => ev m ui k s fun r => onD r fun n => match n with
    | .int j => match ixN l.length j with
      | some n => match l[n]? with
        | some (.int a) => ev m ue k s fun r2 => onD r2 fun y => match y with
          | .int b => k.nx (s.set i (some (.own (l.set n (.int (f a b))))))
          | _ => False
        | _ => False
      | none => False
    | _ => False
  | _ => False
/-- x op= e, of ints -/
def uAug (f : Int → Int → Int) (m : Bool) (i : Nat) (ue : UE) : US := fun k s => match s[i]? with
  | some (some (.d (.int a))) => ev m ue k s fun r => onD r fun y => match y with
    | .int b => k.nx (s.set i (some (.d (.int (f a b)))))
    | _ => False
  | _ => False
theorem ds_aug {op : Operator} {f : Int → Int → Int} (m : Bool) (i : Nat) (ho : DIp X op f) (h : DE X W e te ue) (hN : X.N.Nodup) (hi : X.N[i]? = some x := by rfl) (hx : Loc X.env.scope x := by first | exact .inl rfl | exact .inr rfl)
    (hf : X.fn x = true ∨ X.env.scope.names.lookup x = some .local := by first | exact .inl rfl | exact .inr rfl) : DS X W (.AugAssign (.Name x p1) op e p2) (tAug i te (ipI f)) (uAug f m i ue) := by
  refine ⟨ps_aug hN hi hx h.pe ho.ip hf, fun R F0 H0 F H σ s k D rs c q => ?_⟩
  unfold uAug at q
  split at q
  · next a el =>
    obtain ⟨A, z1, z2⟩ := rs.sl
    obtain ⟨v, h1, h2⟩ := z1 i _ el
    cases (show Dp X.K F v (.int a) from h2)
    refine ⟨_, h1, ?_⟩
    refine h.snd.run m rs c (P := fun r => onD r fun y => match y with
    | .int b => k.nx (s.set i (some (.d (.int (f a b)))))
    | _ => False) q fun v r F' H' g rs' rep p => ?_
    obtain ⟨F2, y, g2, rs2, d2, p2⟩ := rs.dat g rep p
    cases d2 with
    | int b => exact ⟨a, b, rfl, rfl, c.nx F2 _ _ _ (rs2.put_d (.int _)) p2⟩
    | _ => exact p2.elim
  · exact q.elim
theorem ds_putA {op : Operator} {f : Int → Int → Int} {ti : TE} {ui : UE} {n : Expr} (m : Bool) (i : Nat) (ho : DIp X op f) (hn : DE X W n ti ui) (h : DE X W e te ue) (hN : X.N[i]? = some x := by rfl) (hv : Vis X.env.scope x := by first | exact .inl rfl | exact .inr (.inl rfl) | exact .inr (.inr rfl))
    (hd : (x == ("__debug__" : Str)) = false := by decide) (hcd : (x == ("__classdict__" : Str)) = false := by decide)
    (ha : ∀ ov iv new, augStore n ov iv new = (do holding [new, ov, iv] (setItem ov iv new); release [new, ov, iv] []; pure .next) := by intros; rfl) :
    DS X W (.AugAssign (.Subscript (.Name x p1) n p2) op e p4) (tAugS (tVar i) ti te (rIxL X.K) (ipI f) rSetL) (uPutA f m i ui ue) := by
  refine ⟨ps_augS (pe_var hN hv hd hcd) hn.pe pget_list h.pe ho.ip set_list ha, fun R F0 H0 F H σ s k D rs c q => ?_⟩
  unfold uPutA at q
  split at q
  · next l el =>
    obtain ⟨a, xs, h1, h2, h3, h4, h5, h6, h7⟩ := rs.own_at el
    refine ⟨_, h1, ?_⟩
    refine hn.snd.run m rs c q fun v r F' H' g rs' rep p => ?_
    obtain ⟨F2, y, g2, rs2, d2, p2⟩ := rs.dat g rep p
    obtain ⟨a', ys, z1, z2, z3, z4, z5, z6, z7⟩ := rs2.own_at el
    rw [h1] at z1
    cases z1
    cases d2 with
    | int j =>
      dsimp only at p2
      split at p2
      · next jn e1 =>
        split at p2
        · next a0 e2 =>
          obtain ⟨w, e3, d3⟩ := z3.getH e2
          cases d3
          refine ⟨a, ys, j, _, rfl, rfl, .inl (.inl z2), by unfold atI; rw [z3.lengthH, e1]; exact e3, ?_⟩
          refine h.snd.run m rs2 c p2 fun w r F3 H3 g3 rs3 rep3 p3 => ?_
          obtain ⟨F4, z, g4, rs4, d4, p4⟩ := rs2.dat g3 rep3 p3
          obtain ⟨a', zs, y1, y2, y3, y4, y5, y6, y7⟩ := rs4.own_at el
          rw [h1] at y1
          cases y1
          cases d4 with
          | int b => exact ⟨a0, b, rfl, rfl, a, zs, j, jn, rfl, rfl, y2, by rw [y3.lengthH]; exact e1, c.nx F4 _ _ _ (y7 _ _ (y3.setH (.int _))) p4⟩
          | _ => exact p4.elim
        · exact p2.elim
      · exact p2.elim
    | _ => exact p2.elim
  · exact q.elim
end
end
end Pl

namespace Pl
open PySem L2
/-! ### what is walked -/
structure Wk (K : Fr) (R : Rg) (J : It) (l : List D) (F : Hp) : Prop where
  go : ∀ (i : Nat) (F1 H1 : Hp), Sub F F1 → Ok K R F1 H1 → i < l.length → J.go i H1
  yld : ∀ (i : Nat) (F1 H1 : Hp) (x : V) (H2 : Hp), Sub F F1 → Ok K R F1 H1 → J.yld i H1 x H2 → i < l.length → ∃ F2 d, l[i]? = some d ∧ Gr K R F1 H1 F2 H2 ∧ Dp K F2 x d
  stop : ∀ (F1 H1 : Hp), Sub F F1 → Ok K R F1 H1 → J.stop l.length H1
abbrev UI := Sl → (List D → Prop) → (Ex → Prop) → Prop
def SndI (K : Fr) (W : WX) (w : TI) (u : UI) : Prop := ∀ (R : Rg) (F H : Hp) (σ : St) (s : Sl) (P : List D → Prop) (PX : Ex → Prop) (Q : It → Hp → Prop), RepD K R F σ s → Ok K R F H → u s P PX →
  (∀ J l F' H', Gr K R F H F' H' → Wk K R J l F' → P l → Q J H') → Out K W R F H σ PX → w σ H Q
structure DI (X : Cx) (W : WX) (tg iter : Expr) (w : TI) (u : UI) : Prop where
  pi : PI X tg iter w
  snd : SndI X.K W w u
section
variable {X : Cx} {W : WX} {tg e a b : Expr} {te ta tb : TE} {ue ua ub : UE} {t : TA} {ut : UA} {pos p : Pos}
/-- a list or a tuple -/
def iSeq (K : Fr) (tl : TE) : TI := fun σ H Q => tl σ H fun x H1 => (∃ a, x = .ref a ∧ (∃ xs, SqL K H1 a xs) ∧ Q (Itl K a) H1) ∨ ∃ a, x = .ref a ∧ (∃ xs, SqT K H1 a xs) ∧ Q (Itt K a) H1
theorem pi_seq (hl : PE X e te) : PI X tg e (iSeq X.K te) := by
  refine ⟨fun pins s σ H R I h => thn (hl.run pins s σ H _ I h) fun v s1 ⟨x, H1, I1, r1, q1⟩ => ?_⟩
  have fresh : ∀ b ∈ [s1.heap.objs.size], FpOk X pins H1 b := fun b hb => by
    have eb : b = s1.heap.objs.size := by simpa using hb
    rw [eb]
    exact I1.fpOk (Nat.le_refl _) (I1.hok.fresh (Nat.le_refl _))
  rcases q1 with ⟨a, rfl, ⟨xs, hq⟩, q⟩ | ⟨a, rfl, ⟨xs, hq⟩, q⟩
  · cases r1
    obtain ⟨its, rv, pl, hz⟩ := I1.list hq
    exact wpAny_pyIter_list pl.isList ⟨s1.heap.objs.size, _, _, _, H1, rfl, I1.kept (t' := s1.toks) fun b o z => Heap.get?_push_of_some _ z, turn_list a _, ⟨_, Heap.get?_push_size _ rfl, rfl, rfl⟩, fresh, q⟩
  · cases r1
    obtain ⟨its, rv, pl, hz⟩ := I1.tuple hq
    exact wpAny_pyIter_tuple (show s1.heap.IsTuple a its.toArray from pl) ⟨s1.heap.objs.size, _, _, _, H1, rfl, I1.kept (t' := s1.toks) fun b o z => Heap.get?_push_of_some _ z, turn_tuple a _, ⟨_, Heap.get?_push_size _ rfl, rfl, rfl⟩, fresh, q⟩
theorem wk_list {K : Fr} {R : Rg} {F : Hp} {a : Addr} {xs : List V} {l : List D} (hs : SqL K F a xs) (ha : DpAll K F xs l) : Wk K R (Itl K a) l F where
  go := fun i F1 H1 s ok hi => ⟨xs, _, ok.sub.l (s.l hs), List.getElem?_eq_getElem (by rw [ha.lengthH]; exact hi)⟩
  yld := fun i F1 H1 x H2 s ok y hi => by
    obtain ⟨rfl, y⟩ := y
    obtain ⟨d, h1, h2⟩ := ha.getVH (y xs (ok.sub.l (s.l hs)))
    exact ⟨F1, d, h1, ok.refl, h2.subH s⟩
  stop := fun F1 H1 s ok => ⟨xs, ok.sub.l (s.l hs), by rw [ha.lengthH]; exact Nat.le_refl _⟩
theorem wk_tup {K : Fr} {R : Rg} {F : Hp} {a : Addr} {xs : List V} {l : List D} (hs : SqT K F a xs) (ha : DpAll K F xs l) : Wk K R (Itt K a) l F where
  go := fun i F1 H1 s ok hi => ⟨xs, _, ok.sub.t (s.t hs), List.getElem?_eq_getElem (by rw [ha.lengthH]; exact hi)⟩
  yld := fun i F1 H1 x H2 s ok y hi => by
    obtain ⟨rfl, y⟩ := y
    obtain ⟨d, h1, h2⟩ := ha.getVH (y xs (ok.sub.t (s.t hs)))
    exact ⟨F1, d, h1, ok.refl, h2.subH s⟩
  stop := fun F1 H1 s ok => ⟨xs, ok.sub.t (s.t hs), by rw [ha.lengthH]; exact Nat.le_refl _⟩
def onL (r : U) (k : List D → Prop) : Prop := onD r fun x => match x with
  | .list l => k l
  | .tuple l => k l
  | _ => False
def uSeqI (ue : UE) : UI := fun s P PX => ue s (fun r => onL r P) PX
theorem di_seq (h : DE X W e te ue) : DI X W tg e (iSeq X.K te) (uSeqI ue) := by
  refine ⟨pi_seq h.pe, fun R F H σ s P PX Q rd ok q c o => ?_⟩
  refine h.snd.dat rd ok q (fun v x F1 H1 g d q => ?_) o
  cases d with
  | @lst a xs l hs ha => exact .inl ⟨a, rfl, ⟨xs, g.ok.sub.l hs⟩, c _ l F1 H1 g (wk_list hs ha) q⟩
  | @tup a xs l hs ha => exact .inr ⟨a, rfl, ⟨xs, g.ok.sub.t hs⟩, c _ l F1 H1 g (wk_tup hs ha) q⟩
  | _ => exact q.elim
/-- the ints of a range -/
def rngD (lo : Int) (n : Nat) : List D := (List.range n).map fun i => .int (lo + (i : Nat))
theorem rngD_len (lo : Int) (n : Nat) : (rngD lo n).length = n := by simp [rngD]
theorem rngD_get {lo : Int} {n i : Nat} (h : i < n) : (rngD lo n)[i]? = some (.int (lo + (i : Nat))) := by simp [rngD, h]
theorem wk_rng {K : Fr} {R : Rg} {F : Hp} {lo : Int} {n : Nat} : Wk K R (Itr lo n) (rngD lo n) F where
  go := fun i F1 H1 s ok hi => by rw [rngD_len] at hi; exact hi
  yld := fun i F1 H1 x H2 s ok y hi => by
    obtain ⟨rfl, rfl⟩ := y
    rw [rngD_len] at hi
    exact ⟨F1, _, rngD_get hi, ok.refl, .int _⟩
  stop := fun F1 H1 s ok => by rw [rngD_len]; exact Nat.le_refl _
def rOk (i : Int) : Prop := -(2 ^ 62) ≤ i ∧ i < 2 ^ 62
def uRng1 (ue : UE) : UI := fun s P PX => ue s (fun r => onD r fun x => match x with
  | .int j => rOk j ∧ P (rngD 0 j.toNat)
  | _ => False) PX
def uRng2 (ua ub : UE) : UI := fun s P PX => ua s (fun r => onD r fun x => ub s (fun r' => onD r' fun y => match x, y with
  | .int i, .int j => rOk i ∧ rOk j ∧ P (rngD i (j - i).toNat)
  | _, _ => False) PX) PX
theorem di_rng1 (h : DE X W e te ue) (hg : Gl X "range") (hm : X.mg "range" = none) (hs : starEach [e] X.env = [(false, eval e X.env)] := by rfl) (hs2 : starEach (e :: []) X.env = (false, eval e X.env) :: starEach [] X.env := by rfl) :
    DI X W tg (.Call (.Name "range" p) [e] [] pos) (iRng1 (tCons te tNil)) (uRng1 ue) := by
  refine ⟨pi_range1 hg hm (pa_cons h.pe pa_nil hs2) hs, fun R F H σ s P PX Q rd ok q c o => ?_⟩
  refine h.snd.dat rd ok q (fun v x F1 H1 g d q => ?_) o
  cases d with
  | int j => exact ⟨j, rfl, q.1.1, q.1.2, c _ _ F1 H1 g wk_rng q.2⟩
  | _ => exact q.elim
theorem di_rng2 (h : DE X W a ta ua) (h' : DE X W b tb ub) (hg : Gl X "range") (hm : X.mg "range" = none) (hs : starEach [a, b] X.env = [(false, eval a X.env), (false, eval b X.env)] := by rfl) (hs2 : starEach [b] X.env = [(false, eval b X.env)] := by rfl)
    (hs3 : starEach (a :: [b]) X.env = (false, eval a X.env) :: starEach [b] X.env := by rfl) (hs4 : starEach (b :: []) X.env = (false, eval b X.env) :: starEach [] X.env := by rfl) :
    DI X W tg (.Call (.Name "range" p) [a, b] [] pos) (iRng2 (tCons ta (tCons tb tNil))) (uRng2 ua ub) := by
  refine ⟨pi_range2 hg hm (pa_cons h.pe (pa_cons h'.pe pa_nil hs4) hs3) hs hs2, fun R F H σ s P PX Q rd ok q c o => ?_⟩
  refine h.snd.dat rd ok q (fun v x F1 H1 g d q => ?_) o
  refine h'.snd.dat (rd.sub g.ex) g.ok q (fun w y F2 H2 g2 d2 q => ?_) (o.step g)
  cases d with
  | int i =>
    cases d2 with
    | int j => exact ⟨i, j, rfl, ⟨q.1.1, q.1.2, q.2.1.1, q.2.1.2⟩, c _ _ F2 H2 (g.trans g2) wk_rng q.2.2⟩
    | _ => exact q.elim
  | _ => cases d2 <;> exact q.elim

/-! ### targets -/
abbrev UG := D → Option (List (Nat × D))
def setU (s : Sl) : List (Nat × D) → Sl
  | [] => s
  | (i, d) :: r => setU (s.set i (some (.d d))) r
def setV (σ : St) : List (Nat × V) → St
  | [] => σ
  | (i, v) :: r => setV (σ.set i (some v)) r
def RepP (K : Fr) (F : Hp) : List (Nat × V) → List (Nat × D) → Prop
  | [], [] => True
  | (i, v) :: r, (j, d) :: r' => i = j ∧ Dp K F v d ∧ RepP K F r r'
  | _, _ => False
def SndG (K : Fr) (g : TG) (ug : UG) : Prop := ∀ (F H : Hp) (σ : St) (x : V) (d : D) (ps : List (Nat × D)) (Q : St → Hp → Prop), Sub F H → Dp K F x d → ug d = some ps → (∀ qs, RepP K F qs ps → Q (setV σ qs) H) → g x σ H Q
structure DG (X : Cx) (tg : Expr) (g : TG) (ug : UG) : Prop where
  pg : PG X tg g
  snd : SndG X.K g ug
def ugN (i : Nat) : UG := fun d => some [(i, d)]
theorem dg_name {x : Str} (i : Nat) (hN : X.N.Nodup) (hi : X.N[i]? = some x := by rfl) (hx : Loc X.env.scope x := by first | exact .inl rfl | exact .inr rfl) (hf : X.fn x = true ∨ X.env.scope.names.lookup x = some .local := by first | exact .inl rfl | exact .inr rfl) : DG X (.Name x pos) (gName i) (ugN i) :=
  ⟨pg_name hN hi hx hf, fun F H σ x d ps Q s h e q => by cases e; exact q [(i, x)] ⟨rfl, h, trivial⟩⟩
/-- (x, y) -/
def ugT2 (i j : Nat) : UG := fun d => match d with
  | .tuple [a, b] => some [(i, a), (j, b)]
  | _ => none
theorem dg_tup2 {x y : Str} {kk : Nat} {px py : Pos} (i j : Nat) (hc : X.calm = true) (hN : X.N.Nodup) (hi : X.N[i]? = some x := by rfl) (hj : X.N[j]? = some y := by rfl) (hx : Loc X.env.scope x := by first | exact .inl rfl | exact .inr rfl) (hy : Loc X.env.scope y := by first | exact .inl rfl | exact .inr rfl)
    (hf : X.fn x = true ∨ X.env.scope.names.lookup x = some .local := by first | exact .inl rfl | exact .inr rfl) (hf2 : X.fn y = true ∨ X.env.scope.names.lookup y = some .local := by first | exact .inl rfl | exact .inr rfl)
    (h1 : (assignEach [.Name x px, .Name y py] X.env).map (·.2) = assign (.Name x px) X.env :: (assignEach [.Name y py] X.env).map (·.2) := by rfl) (h2 : (assignEach [.Name y py] X.env).map (·.2) = assign (.Name y py) X.env :: (assignEach [] X.env).map (·.2) := by rfl)
    (hn : (assignEach [.Name x px, .Name y py] X.env).length = 2 := by rfl) (hst : (assignEach [.Name x px, .Name y py] X.env).findIdx? (·.1) = none := by rfl) :
    DG X (.Tuple [.Name x px, .Name y py] kk pos) (gTup X.K 2 (gCons (gName i) (gCons (gName j) gNil))) (ugT2 i j) := by
  refine ⟨pg_tup hc (pgs_cons (pg_name hN hi hx hf) (pgs_cons (pg_name hN hj hy hf2) pgs_nil h2) h1) hn hst, fun F H σ x d ps Q s h e q => ?_⟩
  unfold ugT2 at e
  split at e
  · next d1 d2 =>
    cases e
    cases h with
    | @tup a xs _ hs ha =>
      cases ha with
      | cons a1 b1 =>
        cases b1 with
        | cons a2 b2 =>
          cases b2
          exact ⟨a, _, rfl, s.t hs, rfl, _, _, rfl, _, _, rfl, rfl, q [(i, _), (j, _)] ⟨rfl, a1, rfl, a2, trivial⟩⟩
  · cases e
end
section
variable {K : Fr} {R : Rg} {F0 H0 F H : Hp} {σ : St} {s : Sl}
theorem RepS.puts : ∀ {ps : List (Nat × D)} {qs : List (Nat × V)} {σ : St} {s : Sl}, RepS K R F0 H0 F H σ s → RepP K F qs ps → RepS K R F0 H0 F H (setV σ qs) (setU s ps)
  | [], [], _, _, h, _ => h
  | (j, d) :: ps, (i, v) :: qs, σ1, s1, h, r => by
    obtain ⟨rfl, r1, r2⟩ := r
    exact RepS.puts (σ := σ1.set i (some v)) (s := s1.set i (some (.d d))) (RepS.put_d (i := i) h r1) r2
  | [], _ :: _, _, _, _, r => r.elim
  | _ :: _, [], _, _, _, r => r.elim
theorem RepD.put {i : Nat} {v : V} {d : D} (h : RepD K R F σ s) (r : Dp K F v d) : RepD K R F (σ.set i (some v)) (s.set i (some (.d d))) := by
  have hl := h.len
  refine ⟨by rw [List.length_set, List.length_set]; exact hl, fun j x e => ?_⟩
  rcases get_set e with ⟨rfl, e1, hi⟩ | ⟨n, e1⟩
  · cases e1
    exact ⟨v, List.getElem?_set_self (by omega), r⟩
  · obtain ⟨w, q1, q2⟩ := h.get j x e1
    exact ⟨w, by rw [List.getElem?_set_ne (Ne.symm n)]; exact q1, q2⟩
theorem RepD.puts : ∀ {ps : List (Nat × D)} {qs : List (Nat × V)} {σ : St} {s : Sl}, RepD K R F σ s → RepP K F qs ps → RepD K R F (setV σ qs) (setU s ps)
  | [], [], _, _, h, _ => h
  | (j, d) :: ps, (i, v) :: qs, σ1, s1, h, r => by
    obtain ⟨rfl, r1, r2⟩ := r
    exact RepD.puts (σ := σ1.set i (some v)) (s := s1.set i (some (.d d))) (RepD.put (i := i) h r1) r2
  | [], _ :: _, _, _, _, r => r.elim
  | _ :: _, [], _, _, _, r => r.elim
def wipeU (s : Sl) : List Nat → Sl
  | [] => s
  | v :: vs => (wipeU s vs).set v none
theorem RepD.wipe (h : RepD K R F σ s) : ∀ vs : List Nat, RepD K R F (L2.wipe σ vs) (wipeU s vs)
  | [] => h
  | v :: vs => by
    have h' := RepD.wipe h vs
    show RepD K R F ((L2.wipe σ vs).set v none) ((wipeU s vs).set v none)
    refine ⟨by rw [List.length_set, List.length_set]; exact h'.len, fun j x e => ?_⟩
    rcases get_set e with ⟨_, e1, _⟩ | ⟨n, e1⟩
    · cases e1
    · obtain ⟨w, q1, q2⟩ := h'.get j x e1
      exact ⟨w, by rw [List.getElem?_set_ne (Ne.symm n)]; exact q1, q2⟩
/-- what is stored at wiped places is wiped again -/
theorem wipe_get (vs : List Nat) (σ : St) (j : Nat) : (wipe σ vs)[j]? = if j ∈ vs then (σ[j]?).map (fun _ => none) else σ[j]? := by
  induction vs with
  | nil => simp [wipe]
  | cons v vs ih =>
    show ((wipe σ vs).set v none)[j]? = _
    by_cases e : v = j
    · subst e
      rw [if_pos List.mem_cons_self]
      by_cases hl : v < σ.length
      · rw [List.getElem?_set_self (by rw [wipe_length]; exact hl), List.getElem?_eq_getElem hl]; rfl
      · rw [List.getElem?_eq_none (by rw [List.length_set, wipe_length]; omega), List.getElem?_eq_none (by omega)]; rfl
    · rw [List.getElem?_set_ne e, ih]
      by_cases hm : j ∈ vs
      · rw [if_pos hm, if_pos (List.mem_cons_of_mem _ hm)]
      · rw [if_neg hm, if_neg (fun z => (List.mem_cons.mp z).elim (fun z => e z.symm) hm)]
theorem wipe_set {i : Nat} {v : V} {vs : List Nat} (h : i ∈ vs) : wipe (σ.set i (some v)) vs = wipe σ vs := by
  apply List.ext_getElem?
  intro j
  rw [wipe_get, wipe_get]
  by_cases e : j ∈ vs
  · rw [if_pos e, if_pos e]
    by_cases hj : i = j
    · subst hj
      by_cases hl : i < σ.length
      · rw [List.getElem?_set_self hl, List.getElem?_eq_getElem hl]; rfl
      · rw [List.set_eq_of_length_le (by omega)]
    · rw [List.getElem?_set_ne hj]
  · rw [if_neg e, if_neg e, List.getElem?_set_ne (fun z => e (by rw [← z]; exact h))]
theorem wipe_wipe {vs : List Nat} : wipe (wipe σ vs) vs = wipe σ vs := by
  apply List.ext_getElem?
  intro j
  rw [wipe_get, wipe_get]
  by_cases e : j ∈ vs
  · rw [if_pos e, if_pos e]; cases σ[j]? <;> rfl
  · rw [if_neg e, if_neg e]
theorem wipe_puts {vs : List Nat} : ∀ {ps : List (Nat × D)} {qs : List (Nat × V)} {σ : St}, RepP K F qs ps → (∀ p ∈ ps, p.1 ∈ vs) → wipe (setV σ qs) vs = wipe σ vs
  | [], [], _, _, _ => rfl
  | (j, d) :: ps, (i, v) :: qs, _, r, h => by
    obtain ⟨rfl, r1, r2⟩ := r
    exact (wipe_puts r2 fun p hp => h p (List.mem_cons_of_mem _ hp)).trans (wipe_set (h (i, d) List.mem_cons_self))
  | [], _ :: _, _, r, _ => r.elim
  | _ :: _, [], _, r, _ => r.elim
end

/-- another base of what is frozen -/
theorem RepS.rebase {K : Fr} {R : Rg} {F0 H0 F1 F H : Hp} {σ : St} {s : Sl} (h : RepS K R F0 H0 F H σ s) (s0 : Sub F0 F1) (s1 : Sub F1 F) : RepS K R F1 H0 F H σ s :=
  ⟨⟨s1, h.g.keep, fun b o e => (h.g.new b o e).imp (fun z => s0 b o z) fun z => z, h.g.ok⟩, h.live, h.len, h.sl⟩
theorem RepS.unbase {K : Fr} {R : Rg} {F0 H0 F1 H1 F H : Hp} {σ σ1 : St} {s s1 : Sl} (h : RepS K R F1 H0 F H σ s) (o : RepS K R F0 H0 F1 H1 σ1 s1) : RepS K R F0 H0 F H σ s :=
  ⟨⟨o.g.ex.trans h.g.ex, h.g.keep, fun b w e => (h.g.new b w e).elim (fun z => o.g.new b w z) .inr, h.g.ok⟩, h.live, h.len, h.sl⟩
theorem RepX.keep {K : Fr} {F : Hp} {cls : Value} {d : Option Addr} {x : Ex} (h : RepX K F cls d x) : RepX K F cls d x := h
theorem Cont.base {K : Fr} {W : WX} {R : Rg} {F0 H0 F1 H1 : Hp} {k : KS} {D : Ends} {σ1 : St} {s1 : Sl} (c : Cont K W R F0 H0 k D) (o : RepS K R F0 H0 F1 H1 σ1 s1) : Cont K W R F1 H0 k D :=
  ⟨fun F H σ s r q => c.nx F H σ s (r.unbase o) q, fun F H σ s v x r q z => c.rt F H σ s v x (r.unbase o) q z, fun F H σ s r q => c.bk F H σ s (r.unbase o) q, fun F H σ s r q => c.ct F H σ s (r.unbase o) q, fun F H σ s cls d x r q z => c.ex F H σ s cls d x (r.unbase o) q z⟩
/-! ### for, while -/
section
variable {X : Cx} {W : WX} {tg iter c : Expr} {body : List Stmt} {wi : TI} {ui : UI} {g : TG} {ug : UG} {tb : TS} {ub : US} {tt : TT} {ut : UT} {pos : Pos}
def uFor (ui : UI) (ug : UG) (ub : US) : US := fun k s => ui (vw false s) (fun l => ∃ Pv : Nat → Sl → Prop, Pv 0 s ∧ (∀ (i : Nat) (d : D) (s' : Sl), l[i]? = some d → Pv i s' →
  ∃ ps, ug d = some ps ∧ ub { k with nx := Pv (i + 1), ct := Pv (i + 1), bk := k.nx } (setU s' ps)) ∧ ∀ s', Pv l.length s' → k.nx s') (fun x => k.ex x s)
theorem ds_for (hp : PassesOwn (model X.prog X.w) X.A X.env X.xe) (hc : X.calm = true) (hi : DI X W tg iter wi ui) (hg : DG X tg g ug) (hb : DSs X W body tb ub)
    (hs : ∀ x, foldedSetIterable iter X.env x = pure x := by intro _; rfl) : DS X W (.For tg iter body [] pos) (tFor wi g tb) (uFor ui ug ub) := by
  refine ⟨ps_for hp hc hi.pi hg.pg hb.ps hs, fun R F0 H0 F H σ s k D rs c q => ?_⟩
  refine hi.snd R F H σ _ _ _ _ rs.hid rs.g.ok q (fun J l F1 H1 g1 wk q => ?_) fun cls d x F' H' g rep p => c.ex F' H' σ s cls d x (rs.grow g) rep p
  obtain ⟨Pv, p0, pt, pe⟩ := q
  refine ⟨fun i m σ' H' => m = l.length - i ∧ i ≤ l.length ∧ ∃ F' s', RepS X.K R F0 H0 F' H' σ' s' ∧ Sub F1 F' ∧ Pv i s', ⟨_, rfl, Nat.zero_le _, F1, s, rs.grow g1, Sub.refl, p0⟩, ?_⟩
  rintro i m σ' H' ⟨rfl, hi, F', s', rs', sub, pv⟩
  by_cases hlt : i < l.length
  · refine .inr ⟨wk.go i F' H' sub rs'.g.ok hlt, fun σ2 H2 => ∃ F2 s2, RepS X.K R F0 H0 F2 H2 σ2 s2 ∧ Sub F1 F2 ∧ Pv (i + 1) s2, fun σ2 H2 ⟨F2, s2, r2, sb2, p2⟩ => ⟨_, by omega, rfl, hlt, F2, s2, r2, sb2, p2⟩, fun x H2 y => ?_⟩
    obtain ⟨F2, d, hd, g2, dp⟩ := wk.yld i F' H' x H2 sub rs'.g.ok y hlt
    obtain ⟨ps, e1, hb2⟩ := pt i d s' hd pv
    have rs2 := rs'.grow g2
    refine hg.snd F2 H2 σ' x d ps _ g2.ok.sub dp e1 fun qs rp => ?_
    have sb2 : Sub F1 F2 := sub.trans g2.ex
    have again : ∀ F3 H3 σ3 s3, RepS X.K R F2 H0 F3 H3 σ3 s3 → Pv (i + 1) s3 → ∃ F4 s4, RepS X.K R F0 H0 F4 H3 σ3 s4 ∧ Sub F1 F4 ∧ Pv (i + 1) s4 := fun F3 H3 σ3 s3 r3 p3 => ⟨F3, s3, r3.unbase rs2, sb2.trans r3.g.ex, p3⟩
    have c2 : Cont X.K W R F2 H0 k D := c.base rs2
    exact hb.snd R F2 H0 F2 H2 _ _ { k with nx := Pv (i + 1), ct := Pv (i + 1), bk := k.nx } _ ((rs2.puts rp).rebase rs2.g.ex Sub.refl) ⟨again, c2.rt, c2.nx, again, c2.ex⟩ hb2
  · have e : i = l.length := by omega
    subst e
    exact .inl ⟨wk.stop F' H' sub rs'.g.ok, c.nx F' H' σ' s' rs' (pe s' pv)⟩
def uWhile (ut : UT) (m : Bool) (ub : US) : US := fun k s => ∃ W : Nat → Sl → Prop, (∃ n, W n s) ∧ ∀ n s', W n s' → evT m ut k s' fun b => if b = true then ub { k with nx := fun s2 => ∃ n', n' < n ∧ W n' s2, ct := fun s2 => ∃ n', n' < n ∧ W n' s2, bk := k.nx } s' else k.nx s'
theorem ds_while (m : Bool) (hp : PassesOwn (model X.prog X.w) X.A X.env X.xe) (hc : DT X W c tt ut) (hb : DSs X W body tb ub) : DS X W (.While c body [] pos) (tWhile tt tb) (uWhile ut m ub) := by
  refine ⟨ps_while hp hc.pt hb.ps, fun R F0 H0 F H σ s k D rs c q => ?_⟩
  obtain ⟨Wn, ⟨n0, w0⟩, turn⟩ := q
  refine ⟨fun n σ' H' => ∃ F' s', RepS X.K R F0 H0 F' H' σ' s' ∧ Wn n s', ⟨n0, F, s, rs, w0⟩, ?_⟩
  rintro n σ' H' ⟨F', s', rs', w'⟩
  refine hc.snd.run m rs' c (P := fun b => if b = true then ub { k with nx := fun s2 => ∃ n', n' < n ∧ Wn n' s2, ct := fun s2 => ∃ n', n' < n ∧ Wn n' s2, bk := k.nx } s' else k.nx s') (turn n s' w') fun b F2 H2 rs2 p => ?_
  cases b with
  | false => exact c.nx F2 H2 σ' s' rs2 p
  | true =>
    refine ⟨fun σ2 H2 => ∃ n', n' < n ∧ ∃ F' s', RepS X.K R F0 H0 F' H2 σ2 s' ∧ Wn n' s', fun σ2 H2 ⟨n', hn, z⟩ => ⟨n', hn, z⟩, ?_⟩
    have again : ∀ F3 H3 σ3 s3, RepS X.K R F0 H0 F3 H3 σ3 s3 → (∃ n', n' < n ∧ Wn n' s3) → ∃ n', n' < n ∧ ∃ F' s', RepS X.K R F0 H0 F' H3 σ3 s' ∧ Wn n' s' := fun F3 H3 σ3 s3 r3 ⟨n', hn, w3⟩ => ⟨n', hn, F3, s3, r3, w3⟩
    exact hb.snd R F0 H0 F2 H2 σ' s' { k with nx := fun s2 => ∃ n', n' < n ∧ Wn n' s2, ct := fun s2 => ∃ n', n' < n ∧ Wn n' s2, bk := k.nx } _ rs2 ⟨again, c.rt, c.nx, again, c.ex⟩ p
end

/-! ### comprehensions -/
section
variable {X : Cx} {W : WX} {elt tg iter : Expr} {ifs : List Expr} {scope : Scope} {own : List (Str × Nat)} {pos : Pos} {wi : TI} {ui : UI} {g : TG} {ug : UG} {tt : TT} {ut : UT} {te : TE} {ue : UE}
abbrev W0 : WX := fun _ _ _ _ => False
structure DTs (X : Cx) (ifs : List Expr) (t : TT) (u : UT) : Prop where
  pts : PTs X ifs t
  snd : SndT X.K W0 t u
def uYes : UT := fun _ P _ => P true
theorem dts_nil : DTs X [] tYes uYes := ⟨pts_nil, fun R F H σ s P PX Q rd ok q c o => c true F H ok.refl q⟩
theorem dts_one {c : Expr} (h : DT X W0 c tt ut) : DTs X [c] tt ut := ⟨pts_one h.pt, h.snd⟩
abbrev noX : Ex → Prop := fun _ => False
def uLc (ui : UI) (ug : UG) (ut : UT) (ue : UE) (vs : List Nat) : UE := fun s P PX => ui s (fun l => l.length ≤ sizeLine ∧ ∃ I : Nat → List D → Prop, I 0 [] ∧
  (∀ (i : Nat) (d : D) (acc : List D), l[i]? = some d → I i acc → ∃ ps, ug d = some ps ∧ (∀ p ∈ ps, p.1 ∈ vs) ∧
    ut (setU (wipeU s vs) ps) (fun b => if b = true then ue (setU (wipeU s vs) ps) (fun r => onD r fun y => I (i + 1) (acc ++ [y])) noX else I (i + 1) acc) noX) ∧ ∀ acc, acc.length ≤ l.length → I l.length acc → P (.own acc)) PX
theorem snd_lc {K : Fr} {vs : List Nat} (hi : SndI K W wi ui) (hg : SndG K g ug) (ht : SndT K W0 tt ut) (he : SndE K W0 te ue) : SndE K W (tLc wi g tt te vs) (uLc ui ug ut ue vs) := by
  intro R F H σ s P PX Q rd ok q c o
  refine hi R F H σ s _ PX _ rd ok q (fun J l F1 H1 g1 wk q => ?_) o
  obtain ⟨hz, I, i0, it, ie⟩ := q
  intro E hE
  have rd1 := (rd.sub g1.ex).wipe vs
  have hdE : ¬ R.a = some E := fun z => by
    obtain ⟨xs, _, _, e, _⟩ := g1.ok.inv E z
    rw [hE] at e; cases e
  have hF1 : F1 E = none := by
    cases e : F1 E with
    | none => rfl
    | some u => rw [g1.ok.sub E u e] at hE; cases hE
  refine ⟨fun i m H' => m = l.length - i ∧ i ≤ l.length ∧ ∃ F' xs acc, Gr K R F1 H1 F' H' ∧ F' E = none ∧ H' E = some (.lst xs) ∧ DpAll K F' xs acc ∧ acc.length ≤ i ∧ I i acc,
    ⟨_, rfl, Nat.zero_le _, F1, [], [], g1.ok.lay hE, hF1, upd_same, .nil, Nat.le_refl _, i0⟩, ?_⟩
  rintro i m H' ⟨rfl, hi2, F', xs, acc, gr, hF', hE', ha, hal, hI⟩
  -- from a later heap on: the list that is being made
  have ahead : ∀ F2 H2, Gr K R F' H' F2 H2 → F2 E = none ∧ H2 E = some (.lst xs) ∧ DpAll K F2 xs acc := fun F2 H2 g2 => by
    refine ⟨?_, g2.keep E _ hdE hE', ha.subH g2.ex⟩
    cases e : F2 E with
    | none => rfl
    | some u => rcases g2.new E u e with z | z
                · rw [hF'] at z; cases z
                · rw [hE'] at z; cases z
  by_cases hlt : i < l.length
  · refine .inr ⟨wk.go i F' H' gr.ex gr.ok hlt, fun H2 => ∃ F2 xs acc, Gr K R F1 H1 F2 H2 ∧ F2 E = none ∧ H2 E = some (.lst xs) ∧ DpAll K F2 xs acc ∧ acc.length ≤ i + 1 ∧ I (i + 1) acc,
      fun H2 ⟨F2, xs, acc, r⟩ => ⟨_, by omega, rfl, hlt, F2, xs, acc, r⟩, fun x H2 y => ?_⟩
    obtain ⟨F2, d, hd, g2, dp⟩ := wk.yld i F' H' x H2 gr.ex gr.ok y hlt
    obtain ⟨ps, e1, hin, q⟩ := it i d acc hd hI
    have rd2 := rd1.sub (gr.ex.trans g2.ex)
    refine hg F2 H2 _ x d ps _ g2.ok.sub dp e1 fun qs rp => ⟨?_, ?_⟩
    · rw [wipe_puts rp hin, wipe_wipe]
    · have rd3 := rd2.puts rp
      refine ht R F2 H2 _ _ _ noX _ rd3 g2.ok q (fun b F3 H3 g3 p => ?_) fun _ _ _ _ _ _ _ z => z
      have g23 := g2.trans g3
      cases b with
      | false =>
        obtain ⟨a1, a2, a3⟩ := ahead F3 H3 g23
        exact ⟨F3, xs, acc, gr.trans g23, a1, a2, a3, by omega, p⟩
      | true =>
        refine he.dat (rd3.sub g3.ex) g3.ok p (fun v y F4 H4 g4 dy p4 => ?_) fun _ _ _ _ _ _ _ z => z
        have g24 := g23.trans g4
        obtain ⟨a1, a2, a3⟩ := ahead F4 H4 g24
        have gA := gr.trans g24
        refine ⟨xs, a2, by rw [ha.lengthH]; omega, F4, xs ++ [v], acc ++ [y], ?_, a1, upd_same, a3.appendH (.cons dy .nil), by simp; omega, p4⟩
        refine ⟨gA.ex, fun b o n e => ?_, gA.new, ⟨fun b o e => ?_, gA.ok.dis, fun b hb => ?_, fun b hb => ?_⟩⟩
        · have nb : b ≠ E := fun z => by rw [z, hE] at e; cases e
          rw [upd_ne nb]; exact gA.keep b o n e
        · have nb : b ≠ E := fun z => by rw [z, a1] at e; cases e
          rw [upd_ne nb]; exact gA.ok.sub b o e
        · have nb : b ≠ E := fun z => hdE (by rw [← z]; exact hb)
          rw [upd_ne nb]; exact gA.ok.inv b hb
        · by_cases n : b = E
          · rw [n, upd_same]; simp
          · rw [upd_ne n]; exact gA.ok.alive b hb
  · have e : i = l.length := by omega
    subst e
    refine .inl ⟨wk.stop F' H' gr.ex gr.ok, ?_⟩
    have gg := g1.trans gr
    refine c _ (.own acc) F' H' gg ⟨E, xs, rfl, hE', ha, hF', ?_, hdE⟩ (ie acc hal hI)
    cases e : H E with
    | none => rfl
    | some u => rw [g1.keep E u hdE e] at hE; cases hE
theorem de_lc (hc : X.calm = true) (hN : X.N.Nodup) (hi : DI X W tg iter wi ui) (ok : BlkOk X.N X.env.scope scope own)
    (hg : ∀ (s : Shared) (H : Hp) (C : Addr) (cl : List (Str × Addr)) (fp : List Addr), DG (X.blk s H scope (compEnvC scope cl C X.env) fp) tg g ug) (ht : ∀ (s : Shared) (H : Hp) (C : Addr) (cl : List (Str × Addr)) (fp : List Addr), DTs (X.blk s H scope (compEnvC scope cl C X.env) fp) ifs tt ut)
    (he : ∀ (s : Shared) (H : Hp) (C : Addr) (cl : List (Str × Addr)) (fp : List Addr), DE (X.blk s H scope (compEnvC scope cl C X.env) fp) W0 elt te ue) (hs : ∀ x, foldedSetIterable iter X.env x = pure x := by intro _; rfl) :
    DE X W (.ListComp elt [⟨tg, iter, ifs, 0⟩] scope pos) (tLc wi g tt te (own.map (·.2))) (uLc ui ug ut ue (own.map (·.2))) :=
  ⟨pe_lc hc hN hi.pi ok (fun s H C cl fp => (hg s H C cl fp).pg) (fun s H C cl fp => (ht s H C cl fp).pts) (fun s H C cl fp => (he s H C cl fp).pe) hs,
    snd_lc hi.snd (hg X.s_0 X.H_0 0 [] []).snd (ht X.s_0 X.H_0 0 [] []).snd (he X.s_0 X.H_0 0 [] []).snd⟩
/-- y = [e for x in xs]: kept as data (o = false), as an owned list (o = true) -/
theorem ds_setLc {i : Nat} {y : Str} {py spos : Pos} (m : Bool) (hc : X.calm = true) (hN : X.N.Nodup) (hy : X.N[i]? = some y) (hyl : X.env.scope.names.lookup y = some .local) (hsw : swapsWith (.ListComp elt [⟨tg, iter, ifs, 0⟩] scope pos) (some (.Name y py)) spos.line X.env = pure true) (hi : DI X W tg iter wi ui) (ok : BlkOk X.N X.env.scope scope own)
    (hg : ∀ (s : Shared) (H : Hp) (C : Addr) (cl : List (Str × Addr)) (fp : List Addr), DG (X.blk s H scope (compEnvC scope cl C X.env) fp) tg g ug) (ht : ∀ (s : Shared) (H : Hp) (C : Addr) (cl : List (Str × Addr)) (fp : List Addr), DTs (X.blk s H scope (compEnvC scope cl C X.env) fp) ifs tt ut)
    (he : ∀ (s : Shared) (H : Hp) (C : Addr) (cl : List (Str × Addr)) (fp : List Addr), DE (X.blk s H scope (compEnvC scope cl C X.env) fp) W0 elt te ue) (hs : ∀ x, foldedSetIterable iter X.env x = pure x := by intro _; rfl) :
    DS X W (.Assign [.Name y py] (.ListComp elt [⟨tg, iter, ifs, 0⟩] scope pos) spos) (tAsg (tLc wi g tt te (own.map (·.2))) (gName i)) (uSet m i (uLc ui ug ut ue (own.map (·.2)))) :=
  ⟨ps_setLc hc hN hy hyl hsw hi.pi ok (fun s H C cl fp => (hg s H C cl fp).pg) (fun s H C cl fp => (ht s H C cl fp).pts) (fun s H C cl fp => (he s H C cl fp).pe) hs,
    snd_set m (snd_lc hi.snd (hg X.s_0 X.H_0 0 [] []).snd (ht X.s_0 X.H_0 0 [] []).snd (he X.s_0 X.H_0 0 [] []).snd)⟩
theorem ds_setLcO {i : Nat} {y : Str} {py spos : Pos} (m : Bool) (hc : X.calm = true) (hN : X.N.Nodup) (hy : X.N[i]? = some y) (hyl : X.env.scope.names.lookup y = some .local) (hsw : swapsWith (.ListComp elt [⟨tg, iter, ifs, 0⟩] scope pos) (some (.Name y py)) spos.line X.env = pure true) (hi : DI X W tg iter wi ui) (ok : BlkOk X.N X.env.scope scope own)
    (hg : ∀ (s : Shared) (H : Hp) (C : Addr) (cl : List (Str × Addr)) (fp : List Addr), DG (X.blk s H scope (compEnvC scope cl C X.env) fp) tg g ug) (ht : ∀ (s : Shared) (H : Hp) (C : Addr) (cl : List (Str × Addr)) (fp : List Addr), DTs (X.blk s H scope (compEnvC scope cl C X.env) fp) ifs tt ut)
    (he : ∀ (s : Shared) (H : Hp) (C : Addr) (cl : List (Str × Addr)) (fp : List Addr), DE (X.blk s H scope (compEnvC scope cl C X.env) fp) W0 elt te ue) (hs : ∀ x, foldedSetIterable iter X.env x = pure x := by intro _; rfl) :
    DS X W (.Assign [.Name y py] (.ListComp elt [⟨tg, iter, ifs, 0⟩] scope pos) spos) (tAsg (tLc wi g tt te (own.map (·.2))) (gName i)) (uSetO m i (uLc ui ug ut ue (own.map (·.2)))) :=
  ⟨ps_setLc hc hN hy hyl hsw hi.pi ok (fun s H C cl fp => (hg s H C cl fp).pg) (fun s H C cl fp => (ht s H C cl fp).pts) (fun s H C cl fp => (he s H C cl fp).pe) hs,
    snd_setO m (snd_lc hi.snd (hg X.s_0 X.H_0 0 [] []).snd (ht X.s_0 X.H_0 0 [] []).snd (he X.s_0 X.H_0 0 [] []).snd)⟩
end
end Pl

/-! ### enumerate of a list or a tuple -/
namespace Pl
open PySem L2
set_option maxHeartbeats 1000000 in
theorem enum_meets1 {v : Value} {o : Obj} {G : Heap → Prop} (B : Begins v o G) :
    Meets (Builtin.«enumerate.__new__» ⟨[.type "enumerate", v], []⟩) (fun _ R s => G s.heap ∧
      R (.ok (.ret (.ref (s.heap.push o).objs.size))) { s with heap := (s.heap.push o).push { cls := .type "enumerate", data := .fields #[.none, .bool false, .ref s.heap.objs.size, rawInt 0, .none, .none] } }) :=
  .of_wp fun prog w A R s hyp => by
    obtain ⟨hp, gs, dr, tk, os⟩ := s
    obtain ⟨g1, fin⟩ := hyp
    have sub := sub_enumerate
    have begun : ∀ {A' : Around} {E : Value → Shared → Prop} {Q : Value → Shared → Prop}, Q (.ref hp.objs.size) ⟨hp.push o, gs, dr, tk, os⟩ → wpAny (model prog w) A' (pyIter v) Q E ⟨hp, gs, dr, tk, os⟩ :=
      fun q => B.iter prog w _ _ ⟨hp, gs, dr, tk, os⟩ _ g1 q
    wp_walk using begun
    refine wpAny_stack_any fun stk => wpAny_pure ?_
    split
    · rename_i cl _ _ _ _ _
      cases (cl == Value.type "enumerate") <;> (wp_walk using begun; exact ⟨_, rfl, fin⟩)
    · wp_walk using begun
      exact ⟨_, rfl, fin⟩
theorem enum_call1 {prog : Program} {w : World} {A : Around} {E : Value → Shared → Prop} {s : Shared} {v : Value} {o : Obj} {G : Heap → Prop} {Q : Value → Shared → Prop} (B : Begins v o G) (g1 : G s.heap)
    (fin : ∀ h', IsEnum h' (s.heap.objs.size + 1) s.heap.objs.size 0 .none → h'.get? s.heap.objs.size = some o → (∀ b u, s.heap.get? b = some u → h'.get? b = some u) → Q (.ref (s.heap.objs.size + 1)) { s with heap := h' }) :
    wpAny (model prog w) A (call (.type "enumerate") [v]) Q E s := by
  have z : (s.heap.push o).objs.size = s.heap.objs.size + 1 := Heap.size_push ..
  have top : ((s.heap.push o).push { cls := .type "enumerate", data := .fields #[.none, .bool false, .ref s.heap.objs.size, rawInt 0, .none, .none] }).get? (s.heap.objs.size + 1) = some { cls := .type "enumerate", data := .fields #[.none, .bool false, .ref s.heap.objs.size, rawInt 0, .none, .none] } := by
    rw [← z]; exact Heap.get?_push_size _ rfl
  refine callType_new F.called_enumerate (by decide) (F.typeCall_enumerate_1 _) (F.newCall_enumerate_1 _) (fun ob => F.args_object_init_2 ob _) F.entry_enumerate_new (enum_meets1 B) ⟨g1, ?_⟩
  show _ ∧ _
  rw [z]
  exact ⟨⟨_, top, rfl⟩, fin _ top (Heap.get?_push_of_some _ (Heap.get?_push_size _ B.free)) fun b u y => Heap.get?_push_of_some _ (Heap.get?_push_of_some _ y)⟩
section
open PyProof.Rows
theorem apart_tup {h : Heap} {a it : Addr} {i : Nat} {its : Array Value} (h1 : h.IsTupleIter it a i) (h2 : IsTup h a its) : a ≠ it := fun z => by
  obtain ⟨o, ho, hc, _⟩ := h1
  obtain ⟨o', ho', hc', _⟩ := h2
  rw [z, ho] at ho'
  cases ho'
  rw [hc] at hc'
  exact absurd hc' (by decide)
theorem apart_enum {h : Heap} {a e it : Addr} {k : Int} {old : Value} {its : Array Value} (h1 : IsEnum h e it k old) (h2 : IsTup h a its) : e ≠ a := fun z => by
  obtain ⟨o', ho', hc', _⟩ := h2
  rw [← z, (show h.get? e = some _ from h1)] at ho'
  cases ho'
  exact absurd (show Value.type "enumerate" = Value.type "tuple" from hc') (by decide)
/-- the items of a tuple, each in a new pair with its place -/
def Iet (K : Fr) (a : Addr) (xs : List V) : It :=
  ⟨fun i H => SqT K H a xs ∧ i < xs.length, fun i H v H' => ∃ T x, v = .ref T ∧ H T = none ∧ H' = upd H T (.tup [.int (i : Nat), x]) ∧ xs[i]? = some x, fun i H => SqT K H a xs ∧ xs.length = i⟩
theorem turn_enumT {P : Program} {w : World} {K : Fr} {elts : List Expr} {kk : Nat} {tpos : Pos} (a e it : Addr) (xs : List V) :
    Turn P w K (.Tuple elts kk tpos) (Iet K a xs) [e, it] e (fun i h => (∃ old, IsEnum h e it (0 + ((i : Nat) : Int)) old) ∧ h.IsTupleIter it a i ∧ e ≠ it) where
  mem := List.mem_cons_self
  obj := fun i h st b hb => by
    obtain ⟨⟨old, he⟩, ⟨o, ho, hc, hd⟩, _⟩ := st
    rcases List.mem_cons.mp hb with z | z
    · rw [z]; exact ⟨_, he, fun v q => nomatch q⟩
    · rw [List.mem_singleton.mp z]; exact ⟨o, ho, fun v q => by rw [hd] at q; cases q⟩
  keep := fun i h h' st k => ⟨st.1.imp fun old he => k e (by simp) _ he, st.2.1.at fun o q => k it (by simp) o q, st.2.2⟩
  item := by
    intro X hP hw hK hc i pins s σ H E I hf st hg
    subst hP hw hK
    obtain ⟨hen, hit, hne⟩ := st
    obtain ⟨hq, hi⟩ := hg
    obtain ⟨its, rv, pl, hz⟩ := I.tuple hq
    have hl := rv.length
    have ne : a ≠ it := apart_tup hit pl
    have eA : e ≠ a := by
      obtain ⟨old, he⟩ := hen
      exact apart_enum he pl
    have G := GoesN.enumFrom (elts := elts) (x1 := kk) (pos := tpos) 0 (Draws.tuple (prog := X.prog) (w := X.w) (A := X.A.in1) (I.ok.hd hc) it a ne its.toArray) e hne (by simp [hne, eA]) (by simp)
    refine G.goes i s (fun v s₂ => ∃ x H', Inv X pins σ H' s₂ ∧ RelV x v ∧ (Iet X.K a xs).yld i H x H' ∧ (fun (i : Nat) h => (∃ old, IsEnum h e it (0 + ((i : Nat) : Int)) old) ∧ h.IsTupleIter it a i ∧ e ≠ it) (i + 1) s₂.heap ∧ ∀ b ∈ [e, it], H' b = none) E (by simp; omega) ⟨hen, hit, pl⟩ fun v h' tk y st' hk htk => ?_
    obtain ⟨T, t, u, rfl, hT, hu, hTu⟩ := y
    have hu' : its[i]? = some u := by simpa using hu
    obtain ⟨x, hx⟩ : ∃ x, xs[i]? = some x := ⟨_, List.getElem?_eq_getElem hi⟩
    obtain ⟨u2, hu2, ru⟩ := rv.get hx
    rw [hu'] at hu2
    cases hu2
    have e0 : (0 : Int) + (i : Int) = ((i : Nat) : Int) := Int.zero_add _
    have new : ObjOk X.prog X.w (upd H T (.tup [.int (i : Nat), x])) h' T (.tup [.int (i : Nat), x]) :=
      ⟨by show 2 ≤ sizeLine; decide, [.int (0 + (i : Int)) t, u], .cons ⟨t, by rw [e0]⟩ (.cons ru .nil), hTu⟩
    have I1 : Inv X pins σ (upd H T (.tup [.int (i : Nat), x])) { s with heap := h', toks := tk } := I.turnedNew (ch := [e, it]) (fun b ob hb q => hk b ob hb q) hf hT new
    refine ⟨.ref T, _, I1, rfl, ⟨T, x, rfl, I.hok.fresh hT, rfl, hx⟩, ⟨st'.1, st'.2.1, hne⟩, fun b hb => ?_⟩
    have hbs : b < s.heap.objs.size := by
      obtain ⟨old, he⟩ := hen
      obtain ⟨o, ho, _⟩ := hit
      rcases List.mem_cons.mp hb with z | z
      · rw [z]; exact Heap.lt_size he
      · rw [List.mem_singleton.mp z]; exact Heap.lt_size ho
    rw [upd_ne (Nat.ne_of_lt (Nat.lt_of_lt_of_le hbs hT))]
    exact (hf b hb).1
  done := by
    intro X hP hw hK hc i pins s σ H E I hf st hg
    subst hP hw hK
    obtain ⟨hen, hit, hne⟩ := st
    obtain ⟨hq, hi⟩ := hg
    obtain ⟨its, rv, pl, hz⟩ := I.tuple hq
    have hl := rv.length
    have ne : a ≠ it := apart_tup hit pl
    have eA : e ≠ a := by
      obtain ⟨old, he⟩ := hen
      exact apart_enum he pl
    obtain ⟨old, he⟩ := hen
    obtain ⟨f0, f1, f2, f3, f4, f5⟩ := hf it (by simp)
    have e1 : its.toArray.size = i := by simp; omega
    exact wpAny_pyNext_enum_endD (Draws.tuple (prog := X.prog) (w := X.w) (A := X.A.in1) (I.ok.hd hc) it a ne its.toArray) he ⟨by rw [e1]; exact hit, pl⟩ fun h' eb => ⟨rfl, I.turned (t' := s.toks) (fun b o hb q => eb b o hb q) f0 f1 f3 f4 f5⟩
  self := fun A i s Q E st h => by obtain ⟨⟨_, he⟩, _⟩ := st; exact wpAny_pyIter_enum he h
def iEnumA (K : Fr) (ta : TA) : TI := fun σ H Q => ta σ H fun vs H1 => (∃ a, vs = [.ref a] ∧ (∃ xs, SqL K H1 a xs) ∧ Q (Ite K a) H1) ∨ ∃ a xs, vs = [.ref a] ∧ SqT K H1 a xs ∧ Q (Iet K a xs) H1
section
variable {X : Cx} {W : WX} {e : Expr} {te : TE} {ta : TA} {ue : UE} {p pos tpos : Pos} {elts : List Expr} {kk : Nat}
theorem pi_enumA (hg : Gl X "enumerate") (hm : X.mg "enumerate" = none) (he : PA X [e] ta) (hs : starEach [e] X.env = [(false, eval e X.env)] := by rfl) :
    PI X (.Tuple elts kk tpos) (.Call (.Name "enumerate" p) [e] [] pos) (iEnumA X.K ta) := by
  refine ⟨fun pins s σ H R I h => ?_⟩
  refine Call_ (ld_blt I hg hm boot_enumerate (PyProof.Rows.callWith_type1 (thn (he.run pos pins s σ H _ I h) fun us s1 ⟨vs, H1, I1, r1, q⟩ => ?_) hs rfl))
  have far : ∀ b, b ∈ [s1.heap.objs.size + 1, s1.heap.objs.size] → FpOk X pins H1 b := fun b hb => by
    have le : s1.heap.objs.size ≤ b := by
      rcases List.mem_cons.mp hb with z | z
      · rw [z]; exact Nat.le_succ _
      · rw [List.mem_singleton.mp z]; exact Nat.le_refl _
    exact I1.fpOk le (I1.hok.fresh le)
  rcases q with ⟨a, rfl, ⟨xs, hq⟩, q⟩ | ⟨a, xs, rfl, hq, q⟩
  · cases r1 with
    | cons r rr =>
      cases rr
      cases r
      obtain ⟨its, rv, pl, hz⟩ := I1.list hq
      refine enum_call1 (begins_list a its.toArray) pl.isList fun h' hen hit hk => wpAny_pyIter_enum hen ?_
      exact ⟨s1.heap.objs.size + 1, _, _, _, H1, rfl, I1.kept (t' := s1.toks) hk, turn_enum a (s1.heap.objs.size + 1) s1.heap.objs.size, ⟨⟨.none, hen⟩, ⟨_, hit, rfl, rfl⟩, Nat.succ_ne_self _⟩, far, q⟩
  · cases r1 with
    | cons r rr =>
      cases rr
      cases r
      obtain ⟨its, rv, pl, hz⟩ := I1.tuple hq
      refine enum_call1 (begins_tuple a its.toArray) (show s1.heap.IsTuple a its.toArray from pl) fun h' hen hit hk => wpAny_pyIter_enum hen ?_
      exact ⟨s1.heap.objs.size + 1, _, _, _, H1, rfl, I1.kept (t' := s1.toks) hk, turn_enumT a (s1.heap.objs.size + 1) s1.heap.objs.size xs, ⟨⟨.none, hen⟩, ⟨_, hit, rfl, rfl⟩, Nat.succ_ne_self _⟩, far, q⟩
/-- the pairs of place and item -/
def enD (l : List D) : List D := l.mapIdx fun i x => .tuple [.int (i : Nat), x]
theorem enD_len (l : List D) : (enD l).length = l.length := by simp [enD]
theorem enD_get {l : List D} {i : Nat} {x : D} (h : l[i]? = some x) : (enD l)[i]? = some (.tuple [.int (i : Nat), x]) := by simp [enD, h]
theorem wk_pair {K : Fr} {R : Rg} {F1 H1 : Hp} {T : Addr} {i : Nat} {v : V} {x : D} (ok : Ok K R F1 H1) (hT : H1 T = none) (d : Dp K F1 v x) : ∃ F2, Gr K R F1 H1 F2 (upd H1 T (.tup [.int (i : Nat), v])) ∧ Dp K F2 (.ref T) (.tuple [.int (i : Nat), x]) := by
  have g := ok.frz (o := .tup [.int (i : Nat), v]) hT
  exact ⟨_, g, .tup (.inl (.inl upd_same)) (.cons (.int _) (.cons (d.subH g.ex) .nil))⟩
theorem wk_enL {K : Fr} {R : Rg} {F : Hp} {a : Addr} {xs : List V} {l : List D} (hs : SqL K F a xs) (ha : DpAll K F xs l) : Wk K R (Ite K a) (enD l) F where
  go := fun i F1 H1 s ok hi => by rw [enD_len] at hi; exact ⟨xs, _, ok.sub.l (s.l hs), List.getElem?_eq_getElem (by rw [ha.lengthH]; exact hi)⟩
  yld := fun i F1 H1 x H2 s ok y hi => by
    obtain ⟨T, v, rfl, hT, rfl, y⟩ := y
    obtain ⟨d, h1, h2⟩ := ha.getVH (y xs (ok.sub.l (s.l hs)))
    obtain ⟨F2, g, q⟩ := wk_pair (i := i) ok hT (h2.subH s)
    exact ⟨F2, _, enD_get h1, g, q⟩
  stop := fun F1 H1 s ok => ⟨xs, ok.sub.l (s.l hs), by rw [enD_len, ha.lengthH]; exact Nat.le_refl _⟩
theorem wk_enT {K : Fr} {R : Rg} {F : Hp} {a : Addr} {xs : List V} {l : List D} (hs : SqT K F a xs) (ha : DpAll K F xs l) : Wk K R (Iet K a xs) (enD l) F where
  go := fun i F1 H1 s ok hi => by rw [enD_len] at hi; exact ⟨ok.sub.t (s.t hs), by rw [ha.lengthH]; exact hi⟩
  yld := fun i F1 H1 x H2 s ok y hi => by
    obtain ⟨T, v, rfl, hT, rfl, y⟩ := y
    obtain ⟨d, h1, h2⟩ := ha.getVH y
    obtain ⟨F2, g, q⟩ := wk_pair (i := i) ok hT (h2.subH s)
    exact ⟨F2, _, enD_get h1, g, q⟩
  stop := fun F1 H1 s ok => ⟨ok.sub.t (s.t hs), by rw [enD_len, ha.lengthH]⟩
def uEnum (ue : UE) : UI := fun s P PX => ue s (fun r => onL r fun l => P (enD l)) PX
theorem di_enum (h : DE X W e te ue) (hg : Gl X "enumerate") (hm : X.mg "enumerate" = none) (hs : starEach [e] X.env = [(false, eval e X.env)] := by rfl) (hs2 : starEach (e :: []) X.env = (false, eval e X.env) :: starEach [] X.env := by rfl) :
    DI X W (.Tuple elts kk tpos) (.Call (.Name "enumerate" p) [e] [] pos) (iEnumA X.K (tCons te tNil)) (uEnum ue) := by
  refine ⟨pi_enumA hg hm (pa_cons h.pe pa_nil hs2) hs, fun R F H σ s P PX Q rd ok q c o => ?_⟩
  refine h.snd.dat rd ok q (fun v x F1 H1 g d q => ?_) o
  cases d with
  | @lst a xs l hs ha => exact .inl ⟨a, rfl, ⟨xs, g.ok.sub.l hs⟩, c _ _ F1 H1 g (wk_enL hs ha) q⟩
  | @tup a xs l hs ha => exact .inr ⟨a, xs, rfl, g.ok.sub.t hs, c _ _ F1 H1 g (wk_enT hs ha) q⟩
  | _ => exact q.elim
end
end
end Pl

namespace Pl
open PySem L2
/-! ### isinstance -/
inductive Ty where
  | int | bool | str | tup | lst
def Ty.s : Ty → String
  | .int => "int"
  | .bool => "bool"
  | .str => "str"
  | .tup => "tuple"
  | .lst => "list"
def isT : Ty → D → Bool
  | .int, .int _ => true
  | .int, .bool _ => true
  | .bool, .bool _ => true
  | .str, .str _ => true
  | .tup, .tuple _ => true
  | .lst, .list _ => true
  | _, _ => false
def tyN : D → String
  | .none => "NoneType"
  | .bool _ => "bool"
  | .int _ => "int"
  | .str _ => "str"
  | .list _ => "list"
  | .tuple _ => "tuple"
  | .dict _ => "dict"
theorem kit_is (T : Ty) (x : D) (h : ∀ l, x ≠ .dict l) : kitB (tyN x) T.s = some (isT T x) := by
  cases x with
  | dict l => exact absurd rfl (h l)
  | none => cases T <;> first | (show kitB "NoneType" _ = some true; decide +kernel) | (show kitB "NoneType" _ = some false; decide +kernel)
  | bool b => cases T <;> first | (show kitB "bool" _ = some true; decide +kernel) | (show kitB "bool" _ = some false; decide +kernel)
  | int b => cases T <;> first | (show kitB "int" _ = some true; decide +kernel) | (show kitB "int" _ = some false; decide +kernel)
  | str b => cases T <;> first | (show kitB "str" _ = some true; decide +kernel) | (show kitB "str" _ = some false; decide +kernel)
  | list b => cases T <;> first | (show kitB "list" _ = some true; decide +kernel) | (show kitB "list" _ = some false; decide +kernel)
  | tuple b => cases T <;> first | (show kitB "tuple" _ = some true; decide +kernel) | (show kitB "tuple" _ = some false; decide +kernel)
theorem tyx {K : Fr} {F H : Hp} {v : V} {x : D} (s : Sub F H) (h : Dp K F v x) : TyX K H v (.type (tyN x)) ∧ ∀ l, x ≠ .dict l := by
  cases h with
  | non => exact ⟨.base .non, fun l z => by cases z⟩
  | bl b => exact ⟨.base (.bl b), fun l z => by cases z⟩
  | int i => exact ⟨.base (.int i), fun l z => by cases z⟩
  | str y => exact ⟨.base (.str y), fun l z => by cases z⟩
  | @lst a xs l hs ha =>
    refine ⟨?_, fun l z => by cases z⟩
    rcases hs with (hs | ⟨o, hs⟩) | ⟨o, its, n, hk, hc, _⟩
    · exact .base (.lst (s a _ hs))
    · exact .base (.frz (s a _ hs))
    · exact .kList hk hc
  | @tup a xs l hs ha =>
    refine ⟨?_, fun l z => by cases z⟩
    rcases hs with (hs | ⟨o, hs⟩) | ⟨o, its, n, hk, hc, _⟩
    · exact .base (.tup (s a _ hs))
    · exact .fTuple (s a _ hs)
    · exact .kTuple hk hc
section
variable {X : Cx} {W : WX} {e : Expr} {es : List Expr} {te : TE} {ue : UE} {t : TA} {ut : UA} {pos p p2 p3 : Pos}
def uIs (T : Ty) (ue : UE) : UE := fun s P PX => ue s (fun r => onD r fun x => P (.d (.bool (isT T x)))) PX
theorem de_is {nm : Str} (T : Ty) (h : DE X W e te ue) (hg : Gl X "isinstance") (hm : X.mg "isinstance" = none) (hv : bootBuiltins "isinstance" = some (.builtin "isinstance")) (hg2 : Gl X nm) (hm2 : X.mg nm = none) (hv2 : bootBuiltins nm = some (.type T.s)) (hn2 : nm ≠ "__name__" := by decide) (hd2 : (nm == ("__debug__" : Str)) = false := by decide)
    (he : starEach (e :: [.Name nm p2]) X.env = (false, eval e X.env) :: starEach [.Name nm p2] X.env := by rfl) (he2 : starEach (.Name nm p2 :: []) X.env = (false, eval (.Name nm p2) X.env) :: starEach [] X.env := by rfl) (hpl : (backTo pos (starEach [.Name nm p2] X.env)).any (·.1) = false := by rfl) :
    DE X W (.Call (.Name "isinstance" p) [e, .Name nm p2] [] pos) (tCB (rIsi X.K) (tCons te (tCons (tC (.ty T.s)) tNil))) (uIs T ue) := by
  refine ⟨pe_callB call_isi hg hm hv (pa_cons h.pe (pa_cons (pe_bltn hg2 hm2 hv2 rfl hn2 hd2) pa_nil he2) he) (by decide) (by decide) he hpl, fun R F H σ s P PX Q rd ok q c o => ?_⟩
  refine h.snd.dat rd ok q (fun v x F1 H1 g d q => ?_) o
  obtain ⟨ty, nd⟩ := tyx g.ok.sub d
  exact ⟨v, .ty T.s, _, _, _, rfl, .ty T.s, ty, kit_ty (kit_is T x nd), c _ (.d (.bool _)) F1 H1 g (.bl _) q⟩
/-- isinstance(e, (T1, T2)) -/
def uIs2 (T T' : Ty) (ue : UE) : UE := fun s P PX => ue s (fun r => onD r fun x => P (.d (.bool (isT T x || isT T' x)))) PX
theorem de_is2 {nm nm' : Str} {kk : Nat} {p4 : Pos} (T T' : Ty) (h : DE X W e te ue) (hg : Gl X "isinstance") (hm : X.mg "isinstance" = none) (hv : bootBuiltins "isinstance" = some (.builtin "isinstance")) (hg2 : Gl X nm) (hm2 : X.mg nm = none) (hv2 : bootBuiltins nm = some (.type T.s)) (hg3 : Gl X nm') (hm3 : X.mg nm' = none) (hv3 : bootBuiltins nm' = some (.type T'.s))
    (hn2 : nm ≠ "__name__" := by decide) (hd2 : (nm == ("__debug__" : Str)) = false := by decide) (hn3 : nm' ≠ "__name__" := by decide) (hd3 : (nm' == ("__debug__" : Str)) = false := by decide)
    (he : starEach (e :: [.Tuple [.Name nm p2, .Name nm' p3] kk p4]) X.env = (false, eval e X.env) :: starEach [.Tuple [.Name nm p2, .Name nm' p3] kk p4] X.env := by rfl) (he2 : starEach (.Tuple [.Name nm p2, .Name nm' p3] kk p4 :: []) X.env = (false, eval (.Tuple [.Name nm p2, .Name nm' p3] kk p4) X.env) :: starEach [] X.env := by rfl)
    (he3 : starEach (.Name nm p2 :: [.Name nm' p3]) X.env = (false, eval (.Name nm p2) X.env) :: starEach [.Name nm' p3] X.env := by rfl) (he4 : starEach (.Name nm' p3 :: []) X.env = (false, eval (.Name nm' p3) X.env) :: starEach [] X.env := by rfl) (hpl : (backTo pos (starEach [.Tuple [.Name nm p2, .Name nm' p3] kk p4] X.env)).any (·.1) = false := by rfl) :
    DE X W (.Call (.Name "isinstance" p) [e, .Tuple [.Name nm p2, .Name nm' p3] kk p4] [] pos) (tCB (rIsiT X.K) (tCons te (tCons (tTup (tCons (tC (.ty T.s)) (tCons (tC (.ty T'.s)) tNil))) tNil))) (uIs2 T T' ue) := by
  refine ⟨pe_callB call_isiT hg hm hv (pa_cons h.pe (pa_cons (pe_tup (pa_cons (pe_bltn hg2 hm2 hv2 rfl hn2 hd2) (pa_cons (pe_bltn hg3 hm3 hv3 rfl hn3 hd3) pa_nil he4) he3)) pa_nil he2) he) (by decide) (by decide) he hpl, fun R F H σ s P PX Q rd ok q c o => ?_⟩
  refine h.snd.dat rd ok q (fun v x F1 H1 g d q => ⟨by show 2 ≤ sizeLine; decide, fun pp hp => ?_⟩) o
  have g2 := g.ok.lay (o := .tup [.ty T.s, .ty T'.s]) hp
  obtain ⟨ty, nd⟩ := tyx (g.trans g2).ok.sub (d.subH g2.ex)
  refine ⟨v, pp, _, _, _, _, rfl, upd_same, .cons (.ty _) (.cons (.ty _) .nil), ty, ?_, c _ (.d (.bool (isT T x || isT T' x))) F1 _ (g.trans g2) (.bl _) q⟩
  refine kitAny_cons (kit_ty (kit_is T x nd)) (fun z => ?_) fun z => by rw [z]; rfl
  refine kitAny_cons (kit_ty (kit_is T' x nd)) (fun z' => ?_) fun z' => by rw [z, z']; rfl
  rw [z, z']
  exact kitAny_nil
end

/-! ### own functions: a promise over data -/
abbrev Fn := List U → (U → Prop) → (Ex → Prop) → Prop
def SpD (K : Fr) (n : Nat) (f : Fn) : Sp := fun vs H Q E => ∃ (R : Rg) (F : Hp) (as : List U) (P : U → Prop) (PX : Ex → Prop), Ok K R F H ∧ RepAs K R F vs as ∧ as.length = n ∧ f as P PX ∧
  (∀ v r F' H', Gr K R F H F' H' → RepR K R H F' H' v r → P r → Q v H') ∧ ∀ cls d x F' H', Gr K R F H F' H' → RepX K F' cls d x → PX x → E cls d H'
theorem RepAs.len {K : Fr} {R : Rg} {F : Hp} : ∀ {vs : List V} {rs : List U}, RepAs K R F vs rs → vs.length = rs.length
  | [], [], _ => rfl
  | _ :: _, _ :: _, h => by rw [List.length_cons, List.length_cons, RepAs.len h.2]
  | [], _ :: _, h => h.elim
  | _ :: _, [], h => h.elim
theorem SpD.len {K : Fr} {n : Nat} {f : Fn} {vs : List V} {H : Hp} {Q : VK} {E : XK} (h : SpD K n f vs H Q E) : vs.length = n := by
  obtain ⟨R, F, as, P, PX, _, ra, hn, _⟩ := h
  rw [ra.len, hn]
def startU (N : List Str) (as : List U) : Sl := as.map some ++ List.replicate (N.length - as.length) none
def kOf (P : U → Prop) (PX : Ex → Prop) : KS := ⟨fun _ => P (.d .none), fun r _ => P r, fun _ => False, fun _ => False, fun x _ => PX x⟩
theorem start_len (N : List Str) (vs : List V) (h : vs.length ≤ N.length) : (L2.start N vs).length = N.length := by
  unfold L2.start; rw [List.length_append, List.length_map, List.length_replicate]; omega
theorem startU_len (N : List Str) (vs : List U) (h : vs.length ≤ N.length) : (startU N vs).length = N.length := by
  unfold startU; rw [List.length_append, List.length_map, List.length_replicate]; omega
theorem RepAs.get {K : Fr} {R : Rg} {F : Hp} : ∀ {vs : List V} {rs : List U} {i : Nat} {r : U}, RepAs K R F vs rs → rs[i]? = some r → ∃ v, vs[i]? = some v ∧ RepA K R F v r
  | v :: _, r :: _, 0, _, h, e => by cases e; exact ⟨v, rfl, h.1⟩
  | _ :: _, _ :: _, i + 1, _, h, e => by simpa using RepAs.get (i := i) h.2 (by simpa using e)
  | [], [], _, _, _, e => by simp at e
  | [], _ :: _, _, _, h, _ => h.elim
  | _ :: _, [], _, _, h, _ => h.elim
theorem repS_start {K : Fr} {R : Rg} {F H : Hp} {vs : List V} {as : List U} {N : List Str} (ok : Ok K R F H) (ra : RepAs K R F vs as) (hN : as.length ≤ N.length) : RepS K R F H F H (L2.start N vs) (startU N as) := by
  have hl := ra.len
  have gets : ∀ (i : Nat) (r : U), (startU N as)[i]? = some (some r) → ∃ v, (L2.start N vs)[i]? = some (some v) ∧ RepA K R F v r := fun i r e => by
    unfold startU at e
    by_cases hi : i < as.length
    · rw [List.getElem?_append_left (by simpa using hi), List.getElem?_map] at e
      obtain ⟨r', e1, e2⟩ := Option.map_eq_some_iff.mp e
      cases e2
      obtain ⟨v, h1, h2⟩ := ra.get e1
      refine ⟨v, ?_, h2⟩
      unfold L2.start
      rw [List.getElem?_append_left (by rw [List.length_map]; omega), List.getElem?_map, h1]
      rfl
    · rw [List.getElem?_append_right (by simpa using hi), List.getElem?_replicate] at e
      split at e
      · cases e
      · cases e
  have noown : ∀ (i : Nat) (l : List D), (startU N as)[i]? = some (some (.own l)) → False := fun i l e => (gets i _ e).elim fun v h => h.2
  refine ⟨ok.refl, fun b hb z => ?_, by rw [start_len _ _ (by omega), startU_len _ _ hN], fun _ => 0, fun i r e => ?_, fun i j l m e _ _ => (noown i l e).elim⟩
  · obtain ⟨xs, _, _, e, _⟩ := ok.inv b hb
    rw [z] at e; cases e
  · obtain ⟨v, h1, h2⟩ := gets i r e
    refine ⟨v, h1, ?_⟩
    cases r with
    | d x => exact h2
    | hold V => exact h2
    | exc a dd fs => exact h2
    | own l => exact h2.elim
section
variable {P : Program} {w : World} {K : Fr} {mg : Str → Option Value} {base : Heap}
/-- THE RULE of a def -/
theorem fnD {x qual : Str} {st : Stmt} {f : Addr} {fd : FuncData} {N ps : List Str} {k : Nat} {fn : Fn} (F : Fun K x qual st f fd) (S : FnScope N ps (defScope st)) (hN : ps.length ≤ N.length)
    (hbody : ∀ (cdv : Value) (A : Around) (outer : List Env) (s : Shared) (H : Hp) (E : XK), Room k (A.deeper (PyProof.Rows.envOfC qual (defScope st) s.heap.objs.size f cdv)) →
      ∃ t u, DSs (cxOf (L2.CX P w) P w K mg base N qual (defScope st) f cdv A outer s H E) (fun cls d _ H => E cls d H) (defBody st) t u ∧ ∀ (as : List U) (P : U → Prop) (PX : Ex → Prop), as.length = ps.length → fn as P PX → u (kOf P PX) (startU N as)) :
    FnOk P w K mg base (L2.CX P w) (k + 1) f fd ps (SpD K ps.length fn) := by
  refine F.okX S (fun vs H Q E h => h.len) fun cdv A outer s H vs Q E hr hsp => ?_
  obtain ⟨t, u, hd, hp⟩ := hbody cdv A outer s H E hr
  obtain ⟨R, F1, as, PP, PX, ok, ra, hn, hf, hQ, hE⟩ := hsp
  refine ⟨t, hd.ps, hd.snd R F1 H F1 H _ _ (kOf PP PX) _ (repS_start ok ra (by omega)) ⟨fun F' H' σ s r q => ?_, fun F' H' σ s v x r rep q => hQ v x F' H' r.g rep q, fun _ _ _ _ _ q => q, fun _ _ _ _ _ q => q, fun F' H' σ s cls d x r rep q => hE cls d x F' H' r.g rep q⟩ (hp as PP PX hn hf)⟩
  exact hQ .non (.d .none) F' H' r.g .non q
end
/-! ### calls of own functions -/
section
variable {X : Cx} {W : WX} {e : Expr} {es : List Expr} {t : TA} {ut : UA} {pos p : Pos} {k n : Nat} {f : Addr} {fd : FuncData} {ps : List Str} {fn : Fn} {x : Str}
abbrev Air (X : Cx) (W : WX) : Prop := ∀ σ, PassesAt (L2.CX X.prog X.w) X σ (WE W σ)
theorem air0 : Air X W0 := fun σ pins H s e s' I c => by
  obtain ⟨_, _, _, _, _, _, _, _, _, _, _, _, z⟩ := c
  exact z.elim
def uCall (n : Nat) (f : Fn) (ut : UA) : UE := fun s P PX => ut s (fun rs => rs.length = n ∧ f rs P PX) PX
theorem de_call (F : FnOk X.prog X.w X.K X.mg X.base (L2.CX X.prog X.w) k f fd ps (SpD X.K n fn)) (hr : Room k X.A) (hg : Gl X x) (hm : X.mg x = some (.ref f)) (hk : PySem.W.keepIn X.K (.ref f) = true) (hb : Binds X.K fd ps []) (air : Air X W) (ha : DA X W (e :: es) t ut)
    (hdb : (x == ("__debug__" : Str)) = false := by decide) (he : starEach (e :: es) X.env = (false, eval e X.env) :: starEach es X.env := by rfl) (hpl : (backTo pos (starEach es X.env)).any (·.1) = false := by rfl) :
    DE X W (.Call (.Name x p) (e :: es) [] pos) (tCallS (SpD X.K n fn) (WE W) t) (uCall n fn ut) := by
  refine ⟨pe_callS F hr hg hm hk hb air ha.pa hdb he hpl, fun R F1 H σ s P PX Q rd ok q c o => ?_⟩
  refine ha.snd R F1 H σ s _ PX _ rd ok q (fun vs rs F2 H2 g ras q => ?_) o
  exact ⟨R, F2, rs, P, PX, g.ok, ras, q.1, q.2, fun v r F3 H3 g3 rep p => c v r F3 H3 (g.trans g3) (rep.back g) p, fun cls d x F3 H3 g3 rep p => o cls d x F3 H3 (g.trans g3) rep p⟩
/-- the values in another order -/
def pick {α : Type} (d : α) (π : List Nat) (l : List α) : List α := π.map fun i => l.getD i d
structure KB (K : Fr) (fd : FuncData) (ps ks : List Str) (m : Nat) (π : List Nat) : Prop where
  to : ∀ (s : Shared) (us ws : List Value), K.In s.heap → us.length = m → ws.length = ks.length → BindsTo s fd ⟨us, ks.zip ws⟩ (ps.zip (pick .none π (us ++ ws)))
theorem pick_vals {π : List Nat} {vs : List V} {us : List Value} (r : Vals vs us) : Vals (pick .non π vs) (pick .none π us) := by
  unfold pick
  induction π with
  | nil => exact .nil
  | cons i π ih =>
    refine .cons ?_ ih
    cases e : vs[i]? with
    | none =>
      have e2 := r.none_of e
      simp only [List.getD_eq_getElem?_getD, e, e2]
      rfl
    | some v =>
      obtain ⟨u, e2, ru⟩ := r.get e
      simp only [List.getD_eq_getElem?_getD, e, e2]
      exact ru
theorem pick_as {K : Fr} {R : Rg} {F : Hp} {π : List Nat} {vs : List V} {rs : List U} (r : RepAs K R F vs rs) : RepAs K R F (pick .non π vs) (pick (.d .none) π rs) := by
  have hl := r.len
  unfold pick
  induction π with
  | nil => trivial
  | cons i π ih =>
    refine ⟨?_, ih⟩
    cases e : rs[i]? with
    | none =>
      have e2 : vs[i]? = none := List.getElem?_eq_none_iff.mpr (by have := List.getElem?_eq_none_iff.mp e; omega)
      simp only [List.getD_eq_getElem?_getD, e, e2]
      exact Dp.non
    | some v =>
      obtain ⟨u, e2, ru⟩ := r.get e
      simp only [List.getD_eq_getElem?_getD, e, e2]
      exact ru
theorem RepAs.app {K : Fr} {R : Rg} {F : Hp} : ∀ {vs ws : List V} {rs qs : List U}, RepAs K R F vs rs → RepAs K R F ws qs → RepAs K R F (vs ++ ws) (rs ++ qs)
  | [], _, [], _, _, h => h
  | _ :: _, _, _ :: _, _, h, h' => ⟨h.1, RepAs.app h.2 h'⟩
  | [], _, _ :: _, _, h, _ => h.elim
  | _ :: _, _, [], _, h, _ => h.elim
/-- keywords' values -/
structure DK (X : Cx) (W : WX) (kws : List Keyword) (t : TA) (u : UA) : Prop where
  pk : PK X kws t
  snd : SndA X.K W t u
theorem dk_nil : DK X W [] tNil uNil := ⟨pk_nil, fun R F H σ s P PX Q rd ok q c o => c [] [] F H ok.refl trivial q⟩
theorem dk_cons {te : TE} {ue : UE} {nm : Option Str} {kpos : Pos} {kws : List Keyword} (h : DE X W e te ue) (hr : DK X W kws t ut) : DK X W (⟨nm, e, kpos⟩ :: kws) (tCons te t) (uCons ue ut) := by
  refine ⟨pk_cons h.pe hr.pk, fun R F H σ s P PX Q rd ok q c o => ?_⟩
  refine h.snd R F H σ s _ PX _ rd ok q (fun v r F1 H1 g rep q1 => ?_) o
  obtain ⟨F2, g2, ra⟩ := rep.arg g
  refine hr.snd R F2 H1 σ s _ PX _ (rd.sub g2.ex) g2.ok q1 (fun vs rs F3 H3 g3 ras q3 => ?_) (o.step g2)
  exact c (v :: vs) (argU r :: rs) F3 H3 (g2.trans g3) ⟨ra.sub g3.ex, ras⟩ q3
def tCallP (sp : Sp) (π : List Nat) (n1 n2 : Nat) (E : St → XK) (t tk : TA) : TE := fun σ H Q => t σ H fun vs H1 => tk σ H1 fun zs H2 => vs.length = n1 ∧ zs.length = n2 ∧ sp (pick .non π (vs ++ zs)) H2 Q (E σ)
theorem run_P {pins : List (Addr × Obj)} {σ : St} {H : Hp} {s : Shared} {Q : VK} {us ws : List Value} {vs zs : List V} {ks : List Str} {m : Nat} {π : List Nat} {sp : Sp} {E : St → XK} (F : FnOk X.prog X.w X.K X.mg X.base (L2.CX X.prog X.w) k f fd ps sp) (hr : Room k X.A) (hb : KB X.K fd ps ks m π) (hx : PassesAt (L2.CX X.prog X.w) X σ (E σ))
    (I : Inv X pins σ H s) (r : Vals vs us) (rz : Vals zs ws) (l1 : vs.length = m) (l2 : zs.length = ks.length) (h : sp (pick .non π (vs ++ zs)) H Q (E σ)) : wpAny (model X.prog X.w) X.A (call (.ref f) us (ks.zip ws)) (EP X pins σ Q) X.xe s := by
  have b := hb.to s us ws I.kIn (by rw [← r.length]; exact l1) (by rw [← rz.length]; exact l2)
  refine wpAny_call (codeAny_mono (F.run X.A X.stack s H ⟨us, ks.zip ws⟩ (pick .none π (us ++ ws)) (pick .non π (vs ++ zs)) Q (E σ) hr I.env0 b (pick_vals (r.append rz)) h) fun res s' hq => ?_)
  cases res with
  | error er => exact hx pins H s er s' I hq
  | ok fl =>
    cases fl with
    | ret u => exact I.after hq
    | next => exact False.elim hq
    | brk => exact False.elim hq
    | cont => exact False.elim hq
def uCallP (n : Nat) (f : Fn) (π : List Nat) (n1 n2 : Nat) (ut uk : UA) : UE := fun s P PX => ut s (fun rs => uk s (fun qs => rs.length = n1 ∧ qs.length = n2 ∧ (pick (U.d .none) π (rs ++ qs)).length = n ∧ f (pick (.d .none) π (rs ++ qs)) P PX) PX) PX
variable {kws : List Keyword} {ks : List Str} {tk : TA} {uk : UA} {π : List Nat} {m : Nat}
theorem snd_P {K : Fr} {n1 n2 : Nat} (ha : SndA K W t ut) (hk : SndA K W tk uk) : SndE K W (tCallP (SpD K n fn) π n1 n2 (WE W) t tk) (uCallP n fn π n1 n2 ut uk) := by
  intro R F1 H σ s P PX Q rd ok q c o
  refine ha R F1 H σ s _ PX _ rd ok q (fun vs rs F2 H2 g ras q => ?_) o
  refine hk R F2 H2 σ s _ PX _ (rd.sub g.ex) g.ok q (fun zs qs F3 H3 g3 rqs q => ?_) (o.step g)
  obtain ⟨e1, e2, e3, q⟩ := q
  have gg := g.trans g3
  exact ⟨by rw [ras.len]; exact e1, by rw [rqs.len]; exact e2, R, F3, _, P, PX, g3.ok, pick_as ((RepAs.sub g3.ex ras).app rqs), e3, q, fun v r F4 H4 g4 rep p => c v r F4 H4 (gg.trans g4) (rep.back gg) p, fun cls d x F4 H4 g4 rep p => o cls d x F4 H4 (gg.trans g4) rep p⟩
/-- f(k = v, ..) -/
theorem de_callK0 (F : FnOk X.prog X.w X.K X.mg X.base (L2.CX X.prog X.w) k f fd ps (SpD X.K n fn)) (hr : Room k X.A) (hg : Gl X x) (hm : X.mg x = some (.ref f)) (hkp : PySem.W.keepIn X.K (.ref f) = true) (hb : KB X.K fd ps ks 0 π) (air : Air X W) (hk : DK X W kws tk uk)
    (hall : (backToKw pos (keywordEach kws X.env)).all (·.1.isSome) = true := by rfl) (hks : (backToKw pos (keywordEach kws X.env)).filterMap (·.1) = ks := by rfl) (hdb : (x == ("__debug__" : Str)) = false := by decide)
    (hpl : ((backTo pos (starEach [] X.env)).any (·.1) || (backToKw pos (keywordEach kws X.env)).any (·.1.isNone)) = false := by rfl) :
    DE X W (.Call (.Name x p) [] kws pos) (tCallP (SpD X.K n fn) π 0 ks.length (WE W) tNil tk) (uCallP n fn π 0 ks.length uNil uk) := by
  refine ⟨⟨fun pins s σ H Q I h => ?_⟩, snd_P da_nil.snd hk.snd⟩
  refine wpAny_Call_Name_kw (ld_glob I hg hm ?_ hdb)
  refine PySem.W.callWith_KW0 (h₀ := X.base) I.ok.mod.kin hkp hall ?_ hpl
  refine thn (hk.pk.run pos pins s σ H _ I h) fun ws s2 ⟨zs, H2, I2, rz, l1, l2, q2⟩ => ⟨I2.kIn, ?_⟩
  rw [hks]
  exact run_P F hr hb (air σ) I2 .nil rz l1 l2 q2
/-- f(e, .., k = v, ..) -/
theorem de_callK (F : FnOk X.prog X.w X.K X.mg X.base (L2.CX X.prog X.w) k f fd ps (SpD X.K n fn)) (hr : Room k X.A) (hg : Gl X x) (hm : X.mg x = some (.ref f)) (hkp : PySem.W.keepIn X.K (.ref f) = true) (hb : KB X.K fd ps ks m π) (air : Air X W) (ha : DA X W (e :: es) t ut) (hk : DK X W kws tk uk)
    (hall : (backToKw pos (keywordEach kws X.env)).all (·.1.isSome) = true := by rfl) (hks : (backToKw pos (keywordEach kws X.env)).filterMap (·.1) = ks := by rfl) (hdb : (x == ("__debug__" : Str)) = false := by decide) (he : starEach (e :: es) X.env = (false, eval e X.env) :: starEach es X.env := by rfl)
    (hpl : ((backTo pos (starEach (e :: es) X.env)).any (·.1) || (backToKw pos (keywordEach kws X.env)).any (·.1.isNone)) = false := by rfl) :
    DE X W (.Call (.Name x p) (e :: es) kws pos) (tCallP (SpD X.K n fn) π m ks.length (WE W) t tk) (uCallP n fn π m ks.length ut uk) := by
  refine ⟨⟨fun pins s σ H Q I h => ?_⟩, snd_P ha.snd hk.snd⟩
  refine wpAny_Call_Name_kw (ld_glob I hg hm ?_ hdb)
  refine PySem.W.callWith_KW (h₀ := X.base) I.ok.mod.kin hkp hall (thn (ha.pa.run pos pins s σ H _ I h) fun us s1 ⟨vs, H1, I1, r, q⟩ => ?_) hpl he
  refine thn (hk.pk.run pos pins s1 σ H1 _ I1 q) fun ws s2 ⟨zs, H2, I2, rz, l1, l2, q2⟩ => ⟨I2.kIn, ?_⟩
  rw [hks]
  exact run_P F hr hb (air σ) I2 r rz l1 l2 q2
end
end Pl

/-! ### an own error: class .. (.. (ValueError)) with def __init__(self, word, at): super().__init__(text); self.word = word; self.at = at -/
namespace PySem
namespace XSup
open PySem.W PySem.Calls PyProof.Rows PySem.HandSPX
def xA (p1 p2 p3 : Pos) : Arguments := { posonlyargs := [], args := [{ arg := "self", annotation := none, pos := p1 }, { arg := "word", annotation := none, pos := p2 }, { arg := "at", annotation := none, pos := p3 }], vararg := none, kwonlyargs := [], kw_defaults := [], kwarg := none, defaults := [] }
def xB (msg : Str) (j : Nat) (q : Nat → Pos) : List Stmt :=
  [.Expr (.Call (.Attribute (.Call (.Name "super" (q 0)) [] [] (q 1)) "__init__" (q 2)) [.Constant (.str msg) j (q 3)] [] (q 4)) (q 5),
   .Assign [.Attribute (.Name "self" (q 6)) "word" (q 7)] (.Name "word" (q 8)) (q 9),
   .Assign [.Attribute (.Name "self" (q 10)) "at" (q 11)] (.Name "at" (q 12)) (q 13)]
def xS : Scope := { kind := .function, names := [(PySem.Str.ofString "self", .local), (PySem.Str.ofString "word", .local), (PySem.Str.ofString "at", .local), (PySem.Str.ofString "__class__", .free), (PySem.Str.ofString "super", .globalImplicit)], isGenerator := false, isCoroutine := false, more := [] }
/-- what the written part says of the class at C and of its __init__ at fI -/
structure Txt (P : Program) (K : Frag) (C fI : Addr) (nm : Str) : Prop where
  cls : ∃ nm q N bs bm sn sub ab col dd k0 k1 k2 k3 k5, K.lookup C = some (excClassObj nm q C N bs bm true sn sub ab col dd k0 k1 k2 k3 k5 "ValueError.__new__") ∧ refsVE bm = true
  sa : findIn K (.ref C) "__setattr__" = some (some (.builtin "object.__setattr__"))
  noW : findIn K (.ref C) "word" = some none
  noA : findIn K (.ref C) "at" = some none
  iC : findIn K (.ref C) "__init__" = some (some (.ref fI))
  tC : typeIn K (.ref fI) = some (.type "function")
  kC : keepIn K (.ref C) = true
  exC : subIn K (.ref C) (.type "BaseException") = some true
  veC : subIn K (.ref C) (.type "ValueError") = some true
  tyC : typeIn K (.ref C) = some (.type "type")
  meC : mroIn K C (.ref C) = some true
  supC : ks_superIn K C C "__init__" = some (some (.builtin "ValueError.__init__"))
  reB : refsVE [.type "ValueError", .type "Exception", .type "BaseException", .type "object"] = true := by rfl
  opq : nsIn K cStatics "thirdparty.any" = some none
  fn : ∃ (oc : Value) (od : Option Addr) (dV kV doc pm : Value) (an : Option Addr) (cda : Addr) (ct : Value) (cc : Addr) (osl : Array (Option Value)) (qual msg : Str) (j : Nat) (p1 p2 p3 : Pos) (q : Nat → Pos) (ccl : Value) (cdd : Option Addr) (vs : Array Value) (ccs : Array (Option Value)) (file : Str) (tf : Tok) (cl : Value) (cld : Option Addr) (csl : Array (Option Value)),
    K.lookup fI = some ⟨oc, od, .func (ksFn "__init__" qual (xA p1 p2 p3) (xB msg j q) xS dV kV doc pm an (.ref cda) ct cc), osl⟩ ∧ codeIn K (.ref cda) qual = true ∧ dV = .none ∧ kV = .none ∧
    K.lookup cda = some ⟨ccl, cdd, .fields vs, ccs⟩ ∧ vs[2]? = some (.str file tf) ∧ ((P.main.file : Str) == file) = true ∧ ((q 2).endLine == (q 4).line) = true ∧ K.lookup cc = some ⟨cl, cld, .cell (some (.ref C)), csl⟩
  top : (P.main.scope.names.lookup ("super" : Str)).isSome = false
section
variable {prog : Program} {w : World} {A : Around} {E : Value → Shared → Prop} {h : Heap} {g : Array GenState} {d : Drawn} {t : Nat} {os : OsState}
variable {nm q : Str} {C N : Addr} {bs bm : List Value} {hdct : Bool} {sn : List Str} {sub : List Value} {ab : Bool} {col : Option Bool} {dd : Option Addr} {k0 k1 k2 k3 k5 : Option Value}
theorem call_mw {u e t0 : Addr} {rest : List Value} {Q : Value → Shared → Prop}
    (hC : h.get? C = some (excClassObj nm q C N bs bm hdct sn sub ab col dd k0 k1 k2 k3 k5 "ValueError.__new__")) (he : h.get? e = some (excO C t0)) (hu : h.get? u = some (kxs_mw "ValueError.__init__" e)) (hrest : rest.length ≤ sizeLine)
    (hq : ∀ h' t1, (∀ b o, b ≠ e → h.get? b = some o → h'.get? b = some o) → h'.get? e = some (excO C t1) → Q .none ⟨h', g, d, t, os⟩) :
    wpAny (model prog w) A (call (.ref u) rest) Q E ⟨h, g, d, t, os⟩ := by
  refine wpAny_call (codeAny_of_tree ?_)
  show wpAny _ A.in1 (callAny (.ref u) ⟨rest, []⟩) _ _ _
  simp only [callAny]
  refine wpAny_bind (wpAny_load hu ?_)
  simp only [kxs_mw, show (Value.type "method-wrapper" == Value.type "method" || Value.type "method-wrapper" == Value.type "builtin_function_or_method" || Value.type "method-wrapper" == Value.type "method-wrapper") = true by decide, if_true]
  refine KFB.if_so (by decide) ?_
  refine wpAny_bind (check_bound_init F.excBase_ValueError.toExcCallFacts hC he rfl ?_)
  refine wpAny_bind (wpAny_pure (wpAny_pure ?_))
  refine ⟨plainId_quiet F.excBase_ValueError.init.plain _, codeAny_builtin F.excBase_ValueError.initEntry ?_⟩
  exact exc_init_tree (cls := .ref C) (t0 := t0) (dv := none) (c2 := .none) (c3 := .none) (b4 := .bool false) he hrest fun h' k e' _ => hq h' _ k e'
end
theorem he_of {o : Expr} {name : Str} {apos pos p3 : Pos} {env : Env} {c : Const} {j : Nat} (h : (apos.endLine == pos.line) = true) : eval (.Call (.Attribute o name apos) [.Constant c j p3] [] pos) env = (do
      let ov ← attributeBase o name env (eval o env)
      standAt apos.atName
      let (f, first) ← holding [ov] (getMethod ov name (do return (← importBound o env).getD true))
      callWith pos f first (backTo pos (starEach [.Constant c j p3] env)) []) := by
  have hform : methodCallForm ([Expr.Constant c j p3].length + ([] : List Keyword).length) (backTo pos (starEach [.Constant c j p3] env)) (backToKw pos (keywordEach [] env)) = true := rfl
  have hpos : methodCallPos true o env apos pos = pure pos := by unfold methodCallPos; simp [h]
  rw [arm_eval_Call]
  unfold methodCall
  rw [hform, hpos]
  rfl
section
variable {prog : Program} {w : World} {A : Around} {E : Value → Shared → Prop} {R : Result → Shared → Prop} {s : Shared} {K : Frag} {C fI : Addr} {nm : Str}
theorem init_run (T : Txt prog K C fI nm) {x t0 : Addr} {v1 v2 : Value} {mg mb : Str → Option Value} (X : K.In s.heap) (hlim : s.heap.NoLimit) (hG : s.heap.Ns mainGlobals mg) (hgs : mg "super" = none) (hB : s.heap.Ns builtinsNs mb) (hbs : mb "super" = some (.type "super")) (hx : s.heap.get? x = some (excO C t0)) (hnx : K.lookup x = none) (hroom : A.depth < recursionLimit)
    (hq : ∀ h' tk dx t1, (∀ b o, b ≠ x → s.heap.get? b = some o → h'.get? b = some o) → s.heap.objs.size ≤ dx → dx ≠ x → h'.get? x = some { cls := .ref C, dict := some dx, data := .fields #[.ref t1, .none, .none, .none, .bool false, .none] } →
      h'.Ns1 dx (fun y => if y = "at" then some v2 else if y = "word" then some v1 else none) → R (.ok (.ret .none)) { s with heap := h', toks := tk }) :
    codeAny (model prog w) A (.call (.ref fI) ⟨[.ref x, v1, v2], []⟩) R s := by
  obtain ⟨oc, od, dV, kV, doc, pm, an, cda, ct, cc, osl, qual, msg, j, p1, p2, p3, q, ccl, cdd, vs, ccs, file, tf, cl, cld, csl, ho, hcd, rfl, rfl, hcda, hvs, hfile, hline, hcc⟩ := T.fn
  obtain ⟨nm', qn, N, bs, bm, sn, sub, ab, col, dd, k0, k1, k2, k3, k5, hC, hbm⟩ := T.cls
  have hcl : clsIn K C = some { name := nm', bases := bs, mro := .ref C :: bm, ns := N, qualname := qn, hasDict := true, slotNames := sn, subclasses := sub, abstract := ab, collection := col, hasDel := false } := by unfold clsIn; rw [hC] <;> rfl
  refine ks_codeAny_call_defAt (fd := ksFn "__init__" qual (xA p1 p2 p3) (xB msg j q) xS .none .none doc pm an (.ref cda) ct cc) (body := xB msg j q) (binds := [("self", .ref x), ("word", v1), ("at", v2)]) hroom (X _ _ ho) rfl hlim (codeRec_of X hcd) rfl
    (BindsTo.of_eq (by first | rfl | with_unfolding_all rfl)) (by show ∀ x ∈ xS.names, _; decide) (by intro y hy; simp at hy; rcases hy with rfl | rfl | rfl <;> rfl) (fun h₁ hn k => ?_) rfl rfl rfl
  have X₁ : K.In h₁ := X.keeps k
  have hx₁ := k _ _ hx
  have hG₁ : h₁.Ns mainGlobals mg := hG.keeps k
  have hB₁ : h₁.Ns builtinsNs mb := hB.keeps k
  have hD1 := X₁ _ _ hC
  have ne : x ≠ C := fun z => by rw [z] at hnx; rw [hC] at hnx; cases hnx
  obtain ⟨hp, g, dr, tk, os⟩ := s
  dsimp only at *
  have I₁ : InstAt h₁ x (excO C t0) C none := ⟨hx₁, rfl, rfl, trivial⟩
  refine ks_wpAt_execs_cons (ks_wpAt_Expr_any (ks_wpAt_MethodCall (ks_wpAt_super_base (env := ksEnv qual xS hp.objs.size fI (.ref cda) cc) (by rfl) (by rfl) (by rfl) rfl (X₁ _ _ ho) rfl (by rfl) rfl (X₁ _ _ hcda) rfl hvs hfile T.top ?_) (he_of hline)))
  refine ks_loadName_global rfl (by rfl) (loadGlobal_builtin (env := ksEnv qual xS hp.objs.size fI (.ref cda) cc) hG₁ hgs hB₁ hbs ⟨rfl, ?_⟩)
  refine wpAny_loadName_free rfl (by rfl) rfl ⟨_, X₁ _ _ hcc, rfl⟩ ?_
  refine wpAny_loadName_local rfl (by rfl) hn (by rfl) ?_
  refine ks_wpAny_isType_cls hD1 rfl ⟨rfl, ?_⟩
  refine ks_wpAny_call_super hD1 rfl I₁.at_ I₁.cls (fun c e => by cases e) (looks_mroIn X₁ T.meC) (fun h2 e2 k2 => ?_)
  have X₂ : K.In h2 := X₁.keeps k2
  have I₂ : InstAt h2 x (excO C t0) C none := ⟨k2 _ _ hx₁, rfl, rfl, trivial⟩
  have tsup := T.supC
  unfold ks_superIn at tsup
  rw [hcl] at tsup
  have hVE : Looks (model prog w) h2 (isInstance (.ref x) (.type "ValueError")) true := I₂.type.andThen (looks_subIn X₂ T.veC)
  refine kxs_getMethod kxs_ValueError e2 (looks_opaque X₂ T.opq) (l₀ := .ref C :: bm) (fun A Q E s k q => wpAny_bind ((looks_clsIn X₂ hcl) A _ E s k (wpAny_pure q))) rfl X₂ tsup hVE ne (by decide) ?_
  have hmw : (h2.push (kxs_mw "ValueError.__init__" x)).get? h2.objs.size = some (kxs_mw "ValueError.__init__" x) := Heap.get?_push_at rfl rfl
  have k3 : ∀ b o, h2.get? b = some o → (h2.push (kxs_mw "ValueError.__init__" x)).get? b = some o := fun b o e => Heap.get?_push_of_some _ e
  refine kxs_callWith (i := "ValueError.__init__") (x := x) (by rfl) (evalArgs_plain (spliced_cons (wpAny_Constant_str (k := j) (pos := q 3) (spliced_nil ⟨hmw, ?_⟩))))
  refine call_mw ((X₂.keeps k3) _ _ hC) (k3 _ _ I₂.at_) hmw (show [Value.str msg _].length ≤ sizeLine by rw [sizeLine_eq]; exact (by decide : 1 ≤ 16777216)) (fun h4 t4 k4 hx4 => ?_)
  have xL : x ≠ hp.objs.size := Nat.ne_of_lt (Heap.lt_size hx)
  have old4 : ∀ b o, b ≠ x → h₁.get? b = some o → h4.get? b = some o := fun b o hb e => k4 b o hb (k3 _ _ (k2 _ _ e))
  have X₄ : K.In h4 := fun a o e => old4 a o (fun z => by rw [z, hnx] at e; cases e) (X₁ _ _ e)
  have hs := hn.lt
  have nsL : h4.Ns hp.objs.size (fun y => [(("self" : Str), Value.ref x), (("word" : Str), v1), (("at" : Str), v2)].reverse.lookup y) := by
    obtain ⟨oL, es, ep, hL, r⟩ := hn
    exact ⟨oL, es, ep, old4 _ _ (Ne.symm xL) hL, r⟩
  show _root_.PySem.wpAt _ _ _ _ _ _ _
  refine ks_wpAt_execs_cons (ks_wpAt_Assign_Attr (_root_.PySem.wpAt_of_wpAny ?_))
  refine ESX.ldL (v := v1) nsL (by rfl) (ESX.ldL (v := .ref x) nsL (by rfl) ?_)
  refine set_plain X₄ (ox := excO C t4) (od := none) ⟨hx4, rfl, rfl, trivial⟩ T.sa ?_
  refine exc_osa X₄ hx4 hcl (show refsVE (.ref C :: bm) = true from hbm) rfl T.noW (fun h5 t5 dx k5' dn dne hx5 hn5 => ?_)
  have old5 : ∀ b o, b ≠ x → h₁.get? b = some o → h5.get? b = some o := fun b o hb e => k5' b o hb (old4 b o hb e)
  have X₅ : K.In h5 := fun a o e => old5 a o (fun z => by rw [z, hnx] at e; cases e) (X₁ _ _ e)
  have nsL5 : h5.Ns hp.objs.size (fun y => [(("self" : Str), Value.ref x), (("word" : Str), v1), (("at" : Str), v2)].reverse.lookup y) := by
    obtain ⟨oL, es, ep, hL, r⟩ := nsL
    exact ⟨oL, es, ep, k5' _ _ (Ne.symm xL) hL, r⟩
  have s14 : hp.objs.size ≤ dx := Nat.le_trans (Nat.le_of_lt nsL.lt) dn
  show _root_.PySem.wpAt _ _ _ _ _ _ _
  refine ks_wpAt_execs_cons (ks_wpAt_Assign_Attr (_root_.PySem.wpAt_of_wpAny ?_))
  refine ESX.ldL (v := v2) nsL5 (by rfl) (ESX.ldL (v := .ref x) nsL5 (by rfl) ?_)
  obtain ⟨oD, esD, epD, hoD, hdD, _⟩ := hn5.count (ns := ["word"]) (fun y hy => by
    by_cases z : y = "word"
    · simp [z]
    · simp [z] at hy)
  refine set_plain X₅ (ox := { cls := .ref C, dict := some dx, data := .fields _ }) (od := some oD) ⟨hx5, rfl, rfl, hoD⟩ T.sa ?_
  refine PySem.OEX.osa_old X₅ hx5 hn5 (nl := ["word"]) (fun y hy => by
    by_cases z : y = "word"
    · simp [z]
    · simp [z] at hy) (by decide) hcl (show refsVE (.ref C :: bm) = true from hbm) rfl T.noA (fun h6 t6 k6 hn6 => ?_)
  show _root_.PySem.wpAt _ _ _ (execs [] _) _ _ _
  refine _root_.PySem.wpAt_of_wpAny (wpAny_execs_nil ?_)
  exact hq h6 _ dx _ (fun b o hb e => k6 b o (fun z => by have := Heap.lt_size e; rw [z] at this; exact absurd s14 (Nat.not_le_of_lt this)) (old5 b o hb (k b o e))) s14 dne (k6 x _ (Ne.symm dne) hx5) hn6
/-- a made one -/
structure Made (h h' : Heap) (e C d : Addr) (v1 v2 : Value) : Prop where
  keep : ∀ b o, h.get? b = some o → h'.get? b = some o
  new : h.objs.size ≤ e
  obj : ∃ oe vs, h'.get? e = some oe ∧ oe.cls = .ref C ∧ oe.dict = some d ∧ oe.data = .fields vs ∧ vs[1]? = some .none
  dbig : h.objs.size ≤ d
  dne : d ≠ e
  ns : h'.Ns1 d (fun y => if y = "at" then some v2 else if y = "word" then some v1 else none)
theorem made (T : Txt prog K C fI nm) {v1 v2 : Value} {mg mb : Str → Option Value} (X : K.In s.heap) (hlim : s.heap.NoLimit) (hG : s.heap.Ns mainGlobals mg) (hgs : mg "super" = none) (hB : s.heap.Ns builtinsNs mb) (hbs : mb "super" = some (.type "super")) (hroom : A.depth + 1 < recursionLimit)
    (hq : ∀ h' tk e d, Made s.heap h' e C d v1 v2 → R (.ok (.ret (.ref e))) { s with heap := h', toks := tk }) :
    codeAny (model prog w) A (.call (.ref C) ⟨[v1, v2], []⟩) R s := by
  obtain ⟨nm', qn, N, bs, bm, sn, sub, ab, col, dd, k0, k1, k2, k3, k5, hC, hbm⟩ := T.cls
  obtain ⟨hp, g, dr, tk, os⟩ := s
  have k : ∀ b o, hp.get? b = some o → ((hp.push (kdv_tup [v1, v2])).push (excO C hp.objs.size)).get? b = some o := fun b o e => Heap.get?_push_of_some _ (Heap.get?_push_of_some _ e)
  have hget : ((hp.push (kdv_tup [v1, v2])).push (excO C hp.objs.size)).get? (hp.objs.size + 1) = some (excO C hp.objs.size) := by heap_get
  have hnx : K.lookup (hp.objs.size + 1) = none := by
    cases e : K.lookup (hp.objs.size + 1) with
    | none => rfl
    | some o =>
      have z : hp.get? (hp.objs.size + 1) = some o := X _ _ e
      exact absurd (Nat.lt_of_succ_lt (Heap.lt_size z)) (Nat.lt_irrefl _)
  refine call_own F.excBase_ValueError (fun X => refsVE_contains X bm hbm) (X _ _ hC) (looks_findIn X T.iC) (fun self => bind_fn X self T.tC) (show [v1, v2].length ≤ sizeLine by rw [sizeLine_eq]; exact (by decide : 2 ≤ 16777216)) ?_
  refine init_run (s := ⟨(hp.push (kdv_tup [v1, v2])).push (excO C hp.objs.size), g, dr, tk, os⟩) T (X.keeps k) (hlim.keeps k) (hG.keeps k) hgs (hB.keeps k) hbs hget hnx ?_ fun h' tk' dx t1 k' dn dne hx hns => ?_
  · show A.depth + 1 < recursionLimit
    exact hroom
  · have old : ∀ b o, hp.get? b = some o → h'.get? b = some o := fun b o e => k' b o (Nat.ne_of_lt (Nat.lt_succ_of_lt (Heap.lt_size e))) (k b o e)
    have z : hp.objs.size + 1 + 1 ≤ dx := by
      first
        | (simpa only [Heap.size_push] using dn)
        | exact dn
        | (have q := dn; rw [Heap.size_push, Heap.size_push] at q; exact q)
    exact ⟨rfl, hq h' tk' (hp.objs.size + 1) dx ⟨old, Nat.le_succ _, ⟨_, _, hx, rfl, rfl, rfl, rfl⟩, Nat.le_trans (Nat.le_trans (Nat.le_succ _) (Nat.le_succ _)) z, dne, hns⟩⟩
end
end XSup
end PySem

/-! ### a caught own error that has its dict: isinstance -/
namespace PySem
namespace XSup
open PySem.W PySem.Calls PyProof.Rows PySem.HandSPX
section
variable {prog : Program} {w : World} {A : Around} {E : Value → Shared → Prop} {s : Shared} {K : Frag} {x D : Addr} {ox : Obj} {od : Option Obj}
/-- __class__ comes of the class, whatever the instance's dict says -/
theorem cls_found (c : L2.ExcC K D) : findObj K D od "__class__" = some (.bind (.builtin "getset_descriptor.__get__") (.builtin "object.__class__")) := by
  obtain ⟨cd, hc, _⟩ := any_some c.hd
  unfold findObj
  rw [hc, Option.bind_some, c.ha, Option.bind_some]
  simp [c.hn, c.ht]
theorem cls_asked {Q : Option Value → Shared → Prop} (c : L2.ExcC K D) (X : K.In s.heap) (I : InstAt s.heap x ox D od) (q : Q (some (.ref D)) { s with toks := s.toks + 1 }) : wpAny (model prog w) A (getAttr? (.ref x) "__class__") Q E s := by
  have hf := cls_found (od := od) c
  obtain ⟨hp, g, dr, tk, os⟩ := s
  have lt := I.type (M := model prog w)
  have lg := looks_findIn (M := model prog w) X c.hg
  have ln := looks_findIn (M := model prog w) X c.hk
  have lf := looks_find (M := model prog w) X I hf
  have own : (onTheHeap (Value.ref D) && Value.builtin "BaseException.__getattribute__" == Value.builtin "object.__getattribute__") = false := by
    rw [(by decide +kernel : (Value.builtin "BaseException.__getattribute__" == Value.builtin "object.__getattribute__") = false), Bool.and_false]
  unfold getAttr? getAttrBy? getAttrBy
  refine wpAny_bind (wpAny_mkText (wpAny_bind (wpAny_attempt (wpAny_holding (wpAny_bind (lt.at (wpAny_bind (lg.at ?_))))))))
  show wpAny _ _ (if (onTheHeap (Value.ref D) && Value.builtin "BaseException.__getattribute__" == Value.builtin "object.__getattribute__") = true then _ else _) _ _ _
  rw [own, if_neg Bool.false_ne_true]
  unfold getAttrByItsOwn hookBefore
  refine wpAny_bind ?_
  rw [if_pos (by rfl : onTheHeap (Value.ref D) = true)]
  refine ln.at (wpAny_bind (wpAny_attempt (wpAny_holding ?_)))
  unfold callGetattribute
  rw [(by rfl : (false && onTheHeap (Value.builtin "BaseException.__getattribute__")) = false), if_neg Bool.false_ne_true]
  unfold boundAndCalled
  rw [PySem.F.excAttr_ValueError.ga.bind (.ref x)]
  refine wpAny_bind (wpAny_pure (?_ : wpAny _ _ (call (.builtin "BaseException.__getattribute__") [.ref x, .str "__class__" tk]) _ _ _))
  have isB : Looks (model prog w) hp (isInstance (.ref x) (.type "BaseException")) true := lt.andThen (looks_subIn X c.hs)
  refine wpAny_call (codeAny_call_builtin PySem.F.excAttr_ValueError.ga.plain PySem.F.entry_bexc_ga (@check_slot (model prog w) _ _ ⟨hp, g, dr, tk + 1, os⟩ "BaseException.__getattribute__" "BaseException" "__getattribute__" (.ref x) [.str "__class__" tk] [] _ (by decide +kernel) (by decide +kernel) isB (PySem.F.args_bexc_ga (.ref x) (.str "__class__" tk)) ?_))
  unfold Builtin.«object.__getattribute__»
  refine wpAny_bind (wpAny_of_eq (a := ((Value.ref x : Value), [Value.str "__class__" tk])) (by first | rfl | (simp only [slotArgs]; rfl)) (wpAny_bind (wpAny_pure (wpAny_bind (lt.at (wpAny_bind (lf.at ?_)))))))
  show wpAny _ _ (holding [Value.builtin "object.__class__"] (call (.builtin "getset_descriptor.__get__") [.builtin "object.__class__", .ref x, .ref D]) >>= ret) _ _ _
  refine wpAny_bind (wpAny_holding (wpAny_call (class_get (s := ⟨hp, g, dr, tk + 1, os⟩) (ox := ox) (od := od) X I c.hm ?_)))
  refine wpAny_pure (?_ : wpAny _ _ (handedOut (.ref D)) _ _ _)
  rw [handedOut_of (v := .ref D) rfl]
  first
    | exact wpAny_pure (wpAny_pure q)
    | exact wpAny_pure q
    | exact wpAny_pure (wpAny_bind (wpAny_pure (wpAny_pure q)))
theorem kitx (c : L2.ExcC K D) : KitX K (.ref x) (.ref D) (fun h => ∃ od, InstAt h x ox D od) where
  ty := fun _ _ _ ⟨_, I⟩ => I.type
  it := fun _ _ X _ => by
    obtain ⟨cd, hc, _⟩ := any_some c.hd
    unfold clsIn at hc
    split at hc
    · rename_i ho
      intro A' Q' E' s' k q
      unfold isType loadHead
      exact wpAny_bind (wpAny_loadPart (k _ _ (X _ _ ho)) (wpAny_pure q))
    · cases hc
  ne := fun h tp dd its n sl X htp => by
    obtain ⟨cd, hc, _⟩ := any_some c.hd
    refine Bool.eq_false_iff.mpr fun q => ?_
    have e : D = tp := Value.ref.inj (beq_iff_eq.mp q)
    subst e
    unfold clsIn at hc
    split at hc
    · rename_i ho
      cases (X _ _ ho).symm.trans htp
    · cases hc
  ca := fun X ⟨_, I⟩ k => cls_asked c X I k
end
end XSup
end PySem
namespace L2
open PySem PySem.Spec PyProof.Rows
/-- isinstance(e, c), e the error that the suite holds, its dict at d -/
theorem call_isX {X : Cx} {a D d : Addr} {oe : Obj} {pn : List (Addr × Obj)} (c : ExcC X.K D) (hz : Zc (.ref D) (some d) oe) (hf : ∃ vs, oe.data = .fields vs) : CallR (X.suite a ((a, oe) :: pn)) (.builtin "isinstance") (fun xs H Q => rIsE X.K D a xs H Q ∧ ∃ fs, H d = some (.xd fs)) := by
  intro pins s σ H xs us Q I r h
  obtain ⟨⟨cv, u0, b, rfl, hcv, e, q⟩, fs, ed⟩ := h
  cases r with
  | cons rx rr =>
    cases rr with
    | cons rt rr =>
      cases rr
      cases rx
      cases hcv _ rt
      obtain ⟨hget, _⟩ := I.pin (a, oe) (List.mem_append.mpr (.inl List.mem_cons_self))
      have hx : ObjOk X.prog X.w H s.heap d (.xd fs) := I.hok d _ ed
      obtain ⟨mA, hns, _⟩ := hx
      obtain ⟨od, ho, _⟩ := lookIn_ns hns
      obtain ⟨vs, hv⟩ := hf
      have J : PySem.W.InstAt s.heap a oe D (some od) := ⟨hget, hz.1, by unfold PySem.W.notCls; rw [hv] <;> rfl, by rw [hz.2]; exact ho⟩
      exact PySem.W.kia_one (PySem.XSup.kitx c) I.kIn ⟨_, J⟩ e (fun z => nomatch z) fun tk => ⟨.bl b, H, I.kept (t' := tk) fun _ _ z => z, rfl, q⟩
end L2

namespace L2
open PySem PySem.Spec PyProof.Rows
/-- the two fields -/
abbrev fx2 (v1 v2 : V) : List (Str × V) := [(("at" : Str), v2), (("word" : Str), v1)]
theorem relO_two {v1 v2 : V} {u1 u2 : Value} (r1 : RelV v1 u1) (r2 : RelV v2 u2) (f : Str) : RelO (List.lookup f (fx2 v1 v2)) (if f = "at" then some u2 else if f = "word" then some u1 else none) := by
  by_cases h1 : f = "at"
  · subst h1
    have q : List.lookup ("at" : Str) (fx2 v1 v2) = some v2 := by simp [List.lookup]
    rw [q]; exact r2
  · have e1 : (f == ("at" : Str)) = false := by simpa using h1
    rw [if_neg h1]
    by_cases h2 : f = "word"
    · subst h2
      have q : List.lookup ("word" : Str) (fx2 v1 v2) = some v1 := by simp [List.lookup, e1]
      rw [q]; exact r1
    · have e2 : (f == ("word" : Str)) = false := by simpa using h2
      rw [if_neg h2]
      have q : List.lookup f (fx2 v1 v2) = none := by simp [List.lookup, e1, e2]
      rw [q]; trivial
section
variable {X : Cx} {C fI : Addr} {nm : Str}
/-- C(e1, e2) -/
def tMk2 (C : Addr) (ta : TA) : St → Hp → XK → Prop := fun σ H Q => ta σ H fun vs H1 => ∃ v1 v2, vs = [v1, v2] ∧ ∀ d, H1 d = none → Q (.ref C) (some d) (upd H1 d (.xd (fx2 v1 v2)))
theorem pmk2 {a1 a2 : Expr} {ta : TA} {p pos : Pos} {k : Nat} (T : PySem.XSup.Txt X.prog X.K C fI nm) (gC : X.mg nm = some (.ref C)) (gS : X.mg "super" = none) (hr : Room (k + 1) X.A) (ha : PA X [a1, a2] ta) (hg : Gl X nm) (hdb : (nm == ("__debug__" : Str)) = false)
    (he : starEach (a1 :: [a2]) X.env = (false, eval a1 X.env) :: starEach [a2] X.env := by rfl) (hpl : (backTo pos (starEach [a2] X.env)).any (·.1) = false := by rfl) :
    PMk X (.Call (.Name nm p) [a1, a2] [] pos) (tMk2 C ta) := by
  intro pins s σ H Q I h
  refine wpAny_Call_Name_kw (ld_glob I hg gC ?_ hdb)
  refine PySem.W.callWith_K (h₀ := X.base) I.ok.mod.kin T.kC (thn (ha.run pos pins s σ H _ I h) fun us s1 hh => ?_) he hpl
  obtain ⟨vs, H1, I1, r1, v1, v2, ev, q1⟩ := hh
  subst ev
  refine ⟨I1.kIn, ?_⟩
  obtain ⟨mb, hB, hb⟩ := I1.ok.mod.blt
  cases r1 with
  | cons rv1 rn =>
    rename_i u1 us'
    cases rn with
    | cons rv2 rn =>
      rename_i u2 us''
      cases rn
      show wpAny _ _ (call (.ref C) [u1, u2]) _ _ _
      have hlim := I1.nolimit
      have kb := I1.bk
      obtain ⟨hp, g, dr, tk, os⟩ := s1
      have hbs : mb "super" = some (.type "super") := (hb "super" (by decide)).trans (by first | rfl | kernel_rfl | decide +kernel)
      refine wpAny_call (PySem.XSup.made T I1.kIn hlim (I1.ok.mod.glob.keeps kb) gS (hB.keeps kb) hbs (by have := hr.dp; omega) fun h' tk' e d M => ?_)
      show MkP X pins σ Q (.ref e) ⟨h', g, dr, tk', os⟩
      obtain ⟨oe, fv, hoe, hc, hd, hdat, h1⟩ := M.obj
      have hns := M.ns
      obtain ⟨G', g1, g2⟩ := restrict h' fun b => decide (b ≠ e)
      have gk : ∀ b, b ≠ e → G'.get? b = h'.get? b := fun b hb => g1 b (decide_eq_true hb)
      have ge : G'.get? e = none := g2 e (by simp)
      have old : ∀ b o, hp.get? b = some o → G'.get? b = some o := fun b o q => (gk b (Nat.ne_of_lt (Nat.lt_of_lt_of_le (Heap.lt_size q) M.new))).trans (M.keep b o q)
      have ob : ObjOk X.prog X.w (upd H1 d (.xd (fx2 v1 v2))) G' d (.xd (fx2 v1 v2)) := ⟨_, hns.at (fun o q => (gk d M.dne).trans q), fun f => relO_two rv1 rv2 f⟩
      have J : Inv X pins σ (upd H1 d (.xd (fx2 v1 v2))) ⟨G', g, dr, tk', os⟩ := I1.laid (t' := tk') old M.dbig ob
      refine ⟨e, oe, fv, ⟨G', g, dr, tk', os⟩, _, .ref C, some d, rfl, J, fun b o q => ?_, ge, hoe, ⟨hc, hd⟩, hdat, h1, ?_, rfl, I1.bare, raises_own T.exC T.tyC, q1 d (I1.hok.fresh M.dbig)⟩
      · by_cases hb : b = e
        · have q' : G'.get? b = some o := q
          rw [hb, ge] at q'; cases q'
        · exact (gk b hb).symm.trans q
      · rw [upd_ne (Ne.symm M.dne)]
        exact I1.hok.fresh M.new
/-- raise C(e1, e2) -/
def tRaise2 (C : Addr) (W : WX) (ta : TA) : TS := fun _ σ H => tMk2 C ta σ H fun cls d H' => W cls d σ H'
end
end L2

namespace Pl
open PySem L2
section
variable {X : Cx} {W : WX} {C fI : Addr} {nm : Str} {a1 a2 e : Expr} {t : TA} {ut : UA} {p pos pos2 : Pos} {k : Nat}
/-- raise C(e1, e2) -/
def uRaise (C : Addr) (ut : UA) : US := fun k s => ut (vw false s) (fun rs => ∃ x1 x2, rs = [.d x1, .d x2] ∧ k.ex ⟨C, [(("at" : Str), x2), (("word" : Str), x1)]⟩ s) (fun x => k.ex x s)
theorem snd_raise {K : Fr} (h : SndA K W t ut) : SndS K W (tRaise2 C W t) (uRaise C ut) := fun R F0 H0 F H σ s k D rs c q => by
  refine h R F H σ _ _ _ _ rs.hid rs.g.ok q (fun vs us F' H' g ra pp => ?_) fun cls d x F' H' g rep pp => c.ex F' H' σ s cls d x (rs.grow g) rep pp
  obtain ⟨x1, x2, rfl, kx⟩ := pp
  match vs, ra with
  | [v1, v2], ra =>
    obtain ⟨r1, r2, _⟩ := ra
    have d1 : Dp K F' v1 x1 := r1
    have d2 : Dp K F' v2 x2 := r2
    refine ⟨v1, v2, rfl, fun d hd => ?_⟩
    have hF : F' d = none := by
      cases z : F' d with
      | none => rfl
      | some o => rw [g.ok.sub d o z] at hd; cases hd
    have na : ¬ R.a = some d := fun z => by
      obtain ⟨xs, _, _, z1, _⟩ := g.ok.inv d z
      rw [hd] at z1; cases z1
    have g2 : Gr K R F' H' F' (upd H' d (.xd (fx2 v1 v2))) := g.ok.lay hd
    have sF : Sub F' (upd F' d (.xd (fx2 v1 v2))) := Sub.new hF
    have g3 : Gr K R F H (upd F' d (.xd (fx2 v1 v2))) (upd H' d (.xd (fx2 v1 v2))) := by
      have gg := g.trans g2
      refine ⟨gg.ex.trans sF, gg.keep, fun b o z => ?_, gg.ok.freeze upd_same hF na⟩
      by_cases hb : b = d
      · rw [hb]; exact .inr (by
          cases zz : H d with
          | none => rfl
          | some o => rw [g.keep d o na zz] at hd; cases hd)
      · rw [upd_ne hb] at z; exact g.new b o z
    refine c.ex _ _ σ s _ _ _ (rs.grow g3) ⟨rfl, d, _, rfl, upd_same, fun f y hy => ?_⟩ kx
    by_cases h1 : f = ("at" : Str)
    · subst h1
      have e1 : y = x2 := by simpa [List.lookup] using hy.symm
      exact ⟨v2, by simp [List.lookup], e1 ▸ L2.Dp.subH d2 sF⟩
    · have q1 : (f == ("at" : Str)) = false := by simpa using h1
      by_cases h2 : f = ("word" : Str)
      · subst h2
        have e1 : y = x1 := by simpa [List.lookup, q1] using hy.symm
        exact ⟨v1, by simp [List.lookup, q1], e1 ▸ L2.Dp.subH d1 sF⟩
      · have q2 : (f == ("word" : Str)) = false := by simpa using h2
        simp [List.lookup, q1, q2] at hy
theorem ds_raise (hc : X.calm = true) (T : PySem.XSup.Txt X.prog X.K C fI nm) (gC : X.mg nm = some (.ref C)) (gS : X.mg "super" = none) (hr : Room (k + 1) X.A) (tk : Takes X W) (ha : DA X W [a1, a2] t ut) (hg : Gl X nm) (hdb : (nm == ("__debug__" : Str)) = false := by decide)
    (he : starEach (a1 :: [a2]) X.env = (false, eval a1 X.env) :: starEach [a2] X.env := by rfl) (hpl : (backTo pos (starEach [a2] X.env)).any (·.1) = false := by rfl) :
    DS X W (.Raise (some (.Call (.Name nm p) [a1, a2] [] pos)) none pos2) (tRaise2 C W t) (uRaise C ut) :=
  ⟨ps_raise hc tk (pmk2 T gC gS hr ha.pa hg hdb he hpl), snd_raise ha.snd⟩
end

/-! ### in an except suite -/
section
variable {X : Cx} {W : WX} {C dd a : Addr} {oe : Obj} {pn : List (Addr × Obj)} {i : Nat} {x nm : Str} {p p2 pos : Pos}
theorem _root_.Pl.RepS.put_exc {K : Fr} {R : Rg} {F0 H0 F H : Hp} {σ : St} {s : Sl} {v : V} {a dd : Addr} {fs : List (Str × D)} {i : Nat} (h : RepS K R F0 H0 F H σ s) (d : RepE K F v a dd fs) : RepS K R F0 H0 F H (σ.set i (some v)) (s.set i (some (.exc a dd fs))) := by
  obtain ⟨A, h1, h2⟩ := h.sl
  have hl := h.len
  refine ⟨h.g, h.live, by rw [List.length_set, List.length_set]; exact hl, A, fun j r e => ?_, fun j j' l m e e' => ?_⟩
  · rcases get_set e with ⟨rfl, e1, hi⟩ | ⟨n, e1⟩
    · cases e1
      exact ⟨v, List.getElem?_set_self (by omega), d⟩
    · obtain ⟨w, q1, q2⟩ := h1 j r e1
      exact ⟨w, by rw [List.getElem?_set_ne (Ne.symm n)]; exact q1, q2⟩
  · rcases get_set e with ⟨_, e1, _⟩ | ⟨_, e1⟩
    · cases e1
    · rcases get_set e' with ⟨_, e2, _⟩ | ⟨_, e2⟩
      · cases e2
      · exact h2 j j' l m e1 e2
/-- isinstance(e, c) -/
def uIsX (i : Nat) (a dd : Addr) (b : Bool) : UE := fun s P _ => ∃ fs, s[i]? = some (some (.exc a dd fs)) ∧ P (.d (.bool b))
def tIsX (K : Fr) (D a dd : Addr) (i : Nat) (c : V) : TE := tCB (fun xs H Q => rIsE K D a xs H Q ∧ ∃ fs, H dd = some (.xd fs)) (tCons (tVar i) (tCons (tC c) tNil))
theorem snd_isX {K : Fr} {D a dd : Addr} {i : Nat} {c : V} {cv : Value} {b : Bool} (hcv : ∀ u, RelV c u → u = cv) (hk : PySem.W.kitOne K (.ref D) cv = some b) : SndE K W (tIsX K D a dd i c) (uIsX i a dd b) := by
  intro R F H σ s P PX Q rd ok h cc o
  obtain ⟨fs, h1, h2⟩ := h
  obtain ⟨v, h3, h4⟩ := rd.get i _ h1
  obtain ⟨rfl, gs, h5, _⟩ := (h4 : RepE K F v a dd fs)
  exact ⟨_, h3, ⟨c, cv, b, rfl, hcv, hk, cc _ (.d (.bool b)) F H ok.refl (.bl b) h2⟩, gs, ok.sub _ _ h5⟩
theorem de_isX {D : Addr} {C' : Addr} {b : Bool} (c : ExcC X.K D) (hz : Zc (.ref D) (some dd) oe) (hf : ∃ vs, oe.data = .fields vs) (hN : X.N[i]? = some x) (hv : Vis X.env.scope x) (hg : Gl X "isinstance") (hm : X.mg "isinstance" = none) (hgn : Gl X nm) (hmn : X.mg nm = some (.ref C')) (hk : PySem.W.kitOne X.K (.ref D) (.ref C') = some b)
    (hd : (x == ("__debug__" : Str)) = false := by decide) (hcd : (x == ("__classdict__" : Str)) = false := by decide) (hdn : (nm == ("__debug__" : Str)) = false := by decide) (hb : bootBuiltins "isinstance" = some (.builtin "isinstance") := by first | rfl | kernel_rfl | decide +kernel)
    (he : starEach (Expr.Name x p :: [.Name nm p2]) X.env = (false, eval (.Name x p) X.env) :: starEach [.Name nm p2] X.env := by rfl) (he2 : starEach (.Name nm p2 :: []) X.env = (false, eval (.Name nm p2) X.env) :: starEach [] X.env := by rfl) (hpl : (backTo pos (starEach [.Name nm p2] X.env)).any (·.1) = false := by rfl) {p3 : Pos} :
    DE (X.suite a ((a, oe) :: pn)) W (.Call (.Name "isinstance" p3) [.Name x p, .Name nm p2] [] pos) (tIsX X.K D a dd i (.ref C')) (uIsX i a dd b) :=
  ⟨pe_callB (X := X.suite a ((a, oe) :: pn)) (call_isX c hz hf) hg hm hb (pa_cons (pe_var hN hv hd hcd) (pa_cons (pe_glob hgn hmn rfl hdn) pa_nil he2) he) (by decide) (by decide) he hpl, snd_isX (fun _ h => h) hk⟩
theorem de_isXb {D : Addr} {b : Bool} {T : String} (c : ExcC X.K D) (hz : Zc (.ref D) (some dd) oe) (hf : ∃ vs, oe.data = .fields vs) (hN : X.N[i]? = some x) (hv : Vis X.env.scope x) (hg : Gl X "isinstance") (hm : X.mg "isinstance" = none) (hgn : Gl X nm) (hmn : X.mg nm = none) (hbn : bootBuiltins nm = some (.type T)) (hk : PySem.W.kitOne X.K (.ref D) (.type T) = some b)
    (hd : (x == ("__debug__" : Str)) = false := by decide) (hcd : (x == ("__classdict__" : Str)) = false := by decide) (hdn : (nm == ("__debug__" : Str)) = false := by decide) (hnn : nm ≠ "__name__" := by decide) (hb : bootBuiltins "isinstance" = some (.builtin "isinstance") := by first | rfl | kernel_rfl | decide +kernel)
    (he : starEach (Expr.Name x p :: [.Name nm p2]) X.env = (false, eval (.Name x p) X.env) :: starEach [.Name nm p2] X.env := by rfl) (he2 : starEach (.Name nm p2 :: []) X.env = (false, eval (.Name nm p2) X.env) :: starEach [] X.env := by rfl) (hpl : (backTo pos (starEach [.Name nm p2] X.env)).any (·.1) = false := by rfl) {p3 : Pos} :
    DE (X.suite a ((a, oe) :: pn)) W (.Call (.Name "isinstance" p3) [.Name x p, .Name nm p2] [] pos) (tIsX X.K D a dd i (.ty T)) (uIsX i a dd b) :=
  ⟨pe_callB (X := X.suite a ((a, oe) :: pn)) (call_isX c hz hf) hg hm hb (pa_cons (pe_var hN hv hd hcd) (pa_cons (pe_bltn hgn hmn hbn rfl hnn hdn) pa_nil he2) he) (by decide) (by decide) he hpl, snd_isX (fun _ h => h) hk⟩
/-- e.f -/
def uXf (i : Nat) (a dd : Addr) (f : Str) : UE := fun s P _ => ∃ fs y, s[i]? = some (some (.exc a dd fs)) ∧ fs.lookup f = some y ∧ P (.d y)
theorem de_xf {D : Addr} {f : Str} (T : XfC X.K D) (hno : PySem.W.findIn X.K (.ref D) f = some none) (hz : Zc (.ref D) (some dd) oe) (hf : ∃ vs, oe.data = .fields vs) (hN : X.N[i]? = some x) (hv : Vis X.env.scope x) (hd : (x == ("__debug__" : Str)) = false := by decide) (hcd : (x == ("__classdict__" : Str)) = false := by decide)
    (hb : attributeBase (.Name x p) f X.env (eval (.Name x p) X.env) = eval (.Name x p) X.env := by rfl) :
    DE (X.suite a ((a, oe) :: pn)) W (.Attribute (.Name x p) f pos) (tXf a (.ref D) (some dd) D f (tVar i)) (uXf i a dd f) := by
  refine ⟨pe_xf T hno hz hf (pe_var hN hv hd hcd) hb, fun R F H σ s P PX Q rd ok h cc o => ?_⟩
  obtain ⟨fs, y, h1, h2, h6⟩ := h
  obtain ⟨v, h3, h4⟩ := rd.get i _ h1
  obtain ⟨rfl, gs, h5, h7⟩ := (h4 : RepE X.K F v a dd fs)
  obtain ⟨w, h8, h9⟩ := h7 f y h2
  exact ⟨_, h3, rfl, rfl, dd, gs, w, rfl, ok.sub _ _ h5, h8, cc _ (.d y) F H ok.refl h9 h6⟩
end

/-! ### try .. except C as e -/
section
variable {X : Cx} {x n : Str} {c : Value} {i : Nat} {body suite : List Stmt} {b₀ : Stmt} {np pos pos' : Pos} {tb : WX → TS} {ts : Addr → Addr → Addr → TS} {us : Addr → Addr → Addr → US} {Wout : WX} {ub : US}
def tSu (cs : Addr → Prop) (ts : Addr → Addr → Addr → TS) : Addr → Value → Option Addr → TS := fun a cls d D σ H => ∃ C dd, cls = .ref C ∧ d = some dd ∧ cs C ∧ ts C a dd D σ H
/-- cs: the classes whose errors are read in the suite -/
def kTry (K : Fr) (c : Value) (i : Nat) (cs : Addr → Prop) (us : Addr → Addr → Addr → US) (k : KS) : KS := { k with ex := fun x s' => ∃ b, PySem.W.exmOne K (.ref x.C) c = some b ∧
  (b = true → cs x.C ∧ ∀ a dd, us x.C a dd { nx := fun s2 => k.nx (s2.set i none), rt := k.rt, bk := fun s2 => k.bk (s2.set i none), ct := fun s2 => k.ct (s2.set i none), ex := fun _ _ => False } (s'.set i (some (.exc a dd x.fs)))) ∧ (b = false → k.ex x s') }
def uTry (K : Fr) (c : Value) (i : Nat) (cs : Addr → Prop) (ub : US) (us : Addr → Addr → Addr → US) : US := fun k => ub (kTry K c i cs us k)
def kSu (k : KS) (i : Nat) : KS := { nx := fun s2 => k.nx (s2.set i none), rt := k.rt, bk := fun s2 => k.bk (s2.set i none), ct := fun s2 => k.ct (s2.set i none), ex := fun _ _ => False }
theorem ds_try (cs : Addr → Prop) (hs : X.stack = X.env :: X.outer) (hf : X.env.frame = some X.env.locals) (hex : X.ex = []) (hN : X.N.Nodup) (hi : X.N[i]? = some n) (hln : X.env.kindOf n = some .local) (hc : Names X x c) (tk : Takes X Wout)
    (hb : ∀ (W : WX) (pn : List (Addr × Obj)) (xe : Value → Shared → Prop), Takes (X.tr pn xe) W → PassesOwn (model X.prog X.w) X.A X.env xe → DSs (X.tr pn xe) W body (tb W) ub)
    (hsu : ∀ (C a dd : Addr) (oe : Obj) (pn : List (Addr × Obj)), cs C → Zc (.ref C) (some dd) oe → (∃ vs, oe.data = .fields vs) → DSs (X.suite a ((a, oe) :: pn)) W0 (b₀ :: suite) (ts C a dd) (us C a dd)) :
    DS X Wout (.Try body [.ExceptHandler (some (.Name x np)) (some n) (b₀ :: suite) pos'] [] [] pos) (fun D σ H => tb (wAs X.K c i (tSu cs ts) Wout D) D σ H) (uTry X.K c i cs ub us) := by
  refine ⟨ps_try_as hs hf hN hi hln hc tk (fun W pn xe t po => (hb W pn xe t po).ps) (fun a oe cls d pn hz hfl => ⟨fun pins s σ H D I h => ?_⟩), fun R F0 H0 F H σ s k D rs cn q => ?_⟩
  · obtain ⟨C, dd, rfl, rfl, hcs, h'⟩ := h
    exact (hsu C a dd oe pn hcs hz hfl).ps.run pins s σ H D I h'
  · -- an instance of the body's rule
    have inst : ∀ W, SndS X.K W (tb W) ub := fun W => by
      let xe0 : Value → Shared → Prop := fun e s' => wpAny (model X.prog X.w) X.A (leaving X.env e) (fun _ s'' => L2.CX X.prog X.w X.outer X.H_0 X.s_0 (fun _ _ _ => True) e s'') (fun _ _ => True) s'
      have t1 : Takes (X.tr X.pn xe0) (fun _ _ _ _ => True) := takes_of (X := X.tr X.pn xe0) (E := fun _ _ _ => True) hs hf hex rfl
      exact (hb W X.pn xe0 (t1.imp fun _ _ _ _ _ => trivial) (passes_of (X := X.tr X.pn xe0) rfl)).snd
    refine inst _ R F0 H0 F H σ s (kTry X.K c i cs us k) D rs ⟨cn.nx, cn.rt, cn.bk, cn.ct, fun F1 H1 σ1 s1 cls d x1 rs1 rx hk => ?_⟩ q
    obtain ⟨b, hb1, ht, hfl⟩ := hk
    obtain ⟨rfl, dd, gs, rfl, hF, hl⟩ := rx
    refine ⟨b, hb1, fun z a ha => ?_, fun z => cn.ex F1 H1 σ1 s1 _ _ x1 rs1 ⟨rfl, dd, gs, rfl, hF, hl⟩ (hfl z)⟩
    obtain ⟨hcs, hu⟩ := ht z
    refine ⟨x1.C, dd, rfl, rfl, hcs, ?_⟩
    have sn := (hsu x1.C a dd { cls := .ref x1.C, dict := some dd, data := .fields #[] } [] hcs ⟨rfl, rfl⟩ ⟨_, rfl⟩).snd
    refine sn R F0 H0 F1 H1 _ _ (kSu k i) _ (rs1.put_exc (i := i) (v := .ref a) (a := a) (dd := dd) (fs := x1.fs) ⟨rfl, gs, hF, hl⟩) ⟨fun F2 H2 σ2 s2 r2 p2 => cn.nx F2 H2 _ _ r2.put_none p2, fun F2 H2 σ2 s2 v r r2 rr p2 => cn.rt F2 H2 σ2 s2 v r r2 rr p2, fun F2 H2 σ2 s2 r2 p2 => cn.bk F2 H2 _ _ r2.put_none p2, fun F2 H2 σ2 s2 r2 p2 => cn.ct F2 H2 _ _ r2.put_none p2, fun _ _ _ _ _ _ _ _ _ z => z.elim⟩ (hu a dd)
end
end Pl

namespace Pl
open PySem L2
/-! ### a def that works on the cell of draws: the cell opened -/
structure CS (K : Fr) (a : Addr) (G0 H0 G H : Hp) (σ : St) (s : Sl) : Prop where
  keep : ∀ b o, b ≠ a → H0 b = some o → H b = some o
  ex : Sub G0 G
  sub : Sub G H
  ga : G a = none
  new : ∀ b o, G b = some o → G0 b = some o ∨ H0 b = none
  len : σ.length = s.length
  cell : ∃ xs l, H a = some (.lst xs) ∧ DpAll K G xs l ∧ s[0]? = some (some (.d (.list l))) ∧ σ[0]? = some (some (.ref a))
  oth : ∀ i r, i ≠ 0 → s[i]? = some (some r) → ∃ x v, r = .d x ∧ σ[i]? = some (some v) ∧ Dp K G v x
section
variable {K : Fr} {a : Addr} {G0 H0 G H : Hp} {σ : St} {s : Sl} {W : WX}
theorem CS.view (c : CS K a G0 H0 G H σ s) : ∃ F1, RepD K Rg.no F1 σ s ∧ Ok K Rg.no F1 H ∧ ∀ F2 H2, Gr K Rg.no F1 H F2 H2 → ∃ G2, CS K a G0 H0 G2 H2 σ s ∧ Sub G G2 ∧ (∀ b, (∀ l, F2 b ≠ some (.lst l)) → ∀ o, F2 b = some o → G2 b = some o) := by
  obtain ⟨xs, l, c1, c2, c3, c4⟩ := c.cell
  have s1 : Sub G (upd G a (.lst xs)) := Sub.new c.ga
  refine ⟨upd G a (.lst xs), ⟨c.len, fun i r e => ?_⟩, ⟨fun b o e => ?_, fun b z => (by cases z), fun b z => (by cases z), fun b z => z.elim⟩, fun F2 H2 g => ?_⟩
  · by_cases hi : i = 0
    · subst hi
      rw [c3] at e; cases e
      exact ⟨_, c4, .lst (.inl (.inl upd_same)) (c2.subH s1)⟩
    · obtain ⟨x, v, rfl, h1, h2⟩ := c.oth i r hi e
      exact ⟨v, h1, Dp.subH h2 s1⟩
  · by_cases hb : b = a
    · subst hb; rw [upd_same] at e; cases e; exact c1
    · rw [upd_ne hb] at e; exact c.sub b o e
  · have fa : F2 a = some (.lst xs) := g.ex a _ upd_same
    have gg : ∀ b o, b ≠ a → F2 b = some o → (if b = a then none else F2 b) = some o := fun b o n e => by rw [if_neg n]; exact e
    have sG : Sub G (fun b => if b = a then none else F2 b) := fun b o e => by
      have n : b ≠ a := fun z => by rw [z, c.ga] at e; cases e
      exact gg b o n (g.ex b o (by rw [upd_ne n]; exact e))
    have kp : ∀ b o, b ≠ a → H0 b = some o → H2 b = some o := fun b o n e => g.keep b o (fun z => by cases z) (c.keep b o n e)
    refine ⟨fun b => if b = a then none else F2 b, ⟨kp, c.ex.trans sG, fun b o e => ?_, if_pos rfl, fun b o e => ?_, c.len, ⟨xs, l, g.ok.sub a _ fa, c2.subH sG, c3, c4⟩, fun i r hi e => ?_⟩, sG, fun b n o e => ?_⟩
    · split at e
      · cases e
      · exact g.ok.sub b o e
    · split at e
      · cases e
      · next n =>
        rcases g.new b o e with z | z
        · rw [upd_ne n] at z; exact c.new b o z
        · refine .inr ?_
          cases e2 : H0 b with
          | none => rfl
          | some u => rw [c.keep b u n e2] at z; cases z
    · obtain ⟨x, v, h0, h1, h2⟩ := c.oth i r hi e
      exact ⟨x, v, h0, h1, Dp.subH h2 sG⟩
    · exact gg b o (fun z => n xs (by rw [z]; exact fa)) e
theorem CS.run {t : TE} {u : UE} (c : CS K a G0 H0 G H σ s) (h : SndE K W t u) {P : D → Prop} {Q : VK} (q : u s (fun r => onD r fun x => nol x = true ∧ P x) fun _ => False)
    (go : ∀ v x G' H', CS K a G0 H0 G' H' σ s → Sub G G' → Dp K G' v x → nol x = true → P x → Q v H') : t σ H Q := by
  obtain ⟨F1, rd, ok, back⟩ := c.view
  refine h Rg.no F1 H σ s _ _ Q rd ok q (fun v r F2 H2 g rep p => ?_) fun _ _ _ _ _ _ _ z => z.elim
  obtain ⟨G2, c2, s2, n2⟩ := back F2 H2 g
  cases r with
  | d x => exact go v x G2 H2 c2 s2 (dp_nol n2 x v p.1 rep) p.1 p.2
  | own l => exact absurd p.1 (by show nol (.list l) ≠ true; simp [nol])
  | hold V => exact p.elim
  | exc _ _ _ => exact p.elim
theorem CS.runT {t : TT} {u : UT} (c : CS K a G0 H0 G H σ s) (h : SndT K W t u) {P : Bool → Prop} {Q : Bool → Hp → Prop} (q : u s P fun _ => False)
    (go : ∀ b G' H', CS K a G0 H0 G' H' σ s → P b → Q b H') : t σ H Q := by
  obtain ⟨F1, rd, ok, back⟩ := c.view
  refine h Rg.no F1 H σ s _ _ Q rd ok q (fun b F2 H2 g p => ?_) fun _ _ _ _ _ _ _ z => z.elim
  obtain ⟨G2, c2, _, _⟩ := back F2 H2 g
  exact go b G2 H2 c2 p
theorem CS.put_d {v : V} {x : D} {i : Nat} (c : CS K a G0 H0 G H σ s) (hi : i ≠ 0) (d : Dp K G v x) : CS K a G0 H0 G H (σ.set i (some v)) (s.set i (some (.d x))) := by
  obtain ⟨xs, l, c1, c2, c3, c4⟩ := c.cell
  refine ⟨c.keep, c.ex, c.sub, c.ga, c.new, by rw [List.length_set, List.length_set]; exact c.len, ⟨xs, l, c1, c2, by rw [List.getElem?_set_ne hi]; exact c3, by rw [List.getElem?_set_ne hi]; exact c4⟩, fun j r hj e => ?_⟩
  rcases get_set e with ⟨rfl, e1, hl⟩ | ⟨n, e1⟩
  · cases e1
    exact ⟨x, v, rfl, List.getElem?_set_self (by rw [c.len]; exact hl), d⟩
  · obtain ⟨y, w, h0, h1, h2⟩ := c.oth j r hj e1
    exact ⟨y, w, h0, by rw [List.getElem?_set_ne (Ne.symm n)]; exact h1, h2⟩
theorem CS.put_cell {xs : List V} {l : List D} (c : CS K a G0 H0 G H σ s) (d : DpAll K G xs l) : CS K a G0 H0 G (upd H a (.lst xs)) σ (s.set 0 (some (.d (.list l)))) := by
  obtain ⟨ys, m, c1, c2, c3, c4⟩ := c.cell
  have h0 : 0 < s.length := (List.getElem?_eq_some_iff.mp c3).1
  refine ⟨fun b o n e => by rw [upd_ne n]; exact c.keep b o n e, c.ex, fun b o e => ?_, c.ga, c.new, by rw [List.length_set]; exact c.len, ⟨xs, l, upd_same, d, List.getElem?_set_self h0, c4⟩, fun j r hj e => ?_⟩
  · have n : b ≠ a := fun z => by rw [z, c.ga] at e; cases e
    rw [upd_ne n]; exact c.sub b o e
  · rw [List.getElem?_set_ne (Ne.symm hj)] at e
    exact c.oth j r hj e
end
structure ContC (K : Fr) (a : Addr) (G0 H0 : Hp) (k : KS) (D : Ends) : Prop where
  nx : ∀ G H σ s, CS K a G0 H0 G H σ s → k.nx s → D.nx σ H
  rt : ∀ G H σ s v x, CS K a G0 H0 G H σ s → Dp K G v x → k.rt (.d x) s → D.rt v H
def SndK (K : Fr) (t : TS) (u : US) : Prop := ∀ (a : Addr) (G0 H0 G H : Hp) (σ : St) (s : Sl) (k : KS) (D : Ends), CS K a G0 H0 G H σ s → ContC K a G0 H0 k D → u k s → t D σ H
structure DQ (X : Cx) (st : Stmt) (t : TS) (u : US) : Prop where
  ps : PS X st t
  snd : SndK X.K t u
structure DQs (X : Cx) (st : List Stmt) (t : TS) (u : US) : Prop where
  ps : PSs X st t
  snd : SndK X.K t u
section
variable {X : Cx} {W : WX} {e a b c : Expr} {st : Stmt} {rest body orelse : List Stmt} {ta tb tc te ti : TE} {ua ub uc ue ui : UE} {t t' : TS} {u u' : US} {tt : TT} {ut : UT} {pos p p1 p2 p4 : Pos} {x : Str} {n : Expr}
theorem dqs_nil : DQs X [] tNext uNext := ⟨pss_nil, fun a G0 H0 G H σ s k D c cn q => cn.nx G H σ s c q⟩
theorem dqs_one (h : DQ X st t u) : DQs X [st] t u := ⟨pss_one h.ps, h.snd⟩
theorem dqs_cons (h : DQ X st t u) (h' : DQs X rest t' u') : DQs X (st :: rest) (tSeq t t') (uSeq u u') :=
  ⟨pss_cons h.ps h'.ps, fun a G0 H0 G H σ s k D c cn q => h.snd a G0 H0 G H σ s { k with nx := u' k } _ c ⟨fun G' H' σ' s' c' q' => h'.snd a G0 H0 G' H' σ' s' k D c' cn q', cn.rt⟩ q⟩
def uIfQ (ut : UT) (u u' : US) : US := fun k s => ut s (fun b => if b = true then u k s else u' k s) fun _ => False
theorem dq_if (hc : DT X W c tt ut) (ha : DQs X body t u) (hb : DQs X orelse t' u') : DQ X (.If c body orelse pos) (tIfS tt t t') (uIfQ ut u u') :=
  ⟨ps_if hc.pt ha.ps hb.ps, fun a G0 H0 G H σ s k D cs cn q => cs.runT hc.snd (P := fun b => if b = true then u k s else u' k s) q fun b G' H' c' p => by
    cases b with
    | true => exact ha.snd a G0 H0 G' H' σ s k D c' cn p
    | false => exact hb.snd a G0 H0 G' H' σ s k D c' cn p⟩
def uRetQ (ue : UE) : US := fun k s => ue s (fun r => onD r fun x => nol x = true ∧ k.rt (.d x) s) fun _ => False
theorem dq_ret (h : DE X W e te ue) : DQ X (.Return (some e) pos) (tRet te) (uRetQ ue) :=
  ⟨ps_ret h.pe, fun a G0 H0 G H σ s k D cs cn q => cs.run h.snd (P := fun x => k.rt (.d x) s) q fun v x G' H' c' _ d _ p => cn.rt G' H' σ s v x c' d p⟩
def uSetQ (i : Nat) (ue : UE) : US := fun k s => i ≠ 0 ∧ ue s (fun r => onD r fun x => nol x = true ∧ k.nx (s.set i (some (.d x)))) fun _ => False
theorem dq_set {p' : Pos} (i : Nat) (h : DE X W e te ue) (hN : X.N.Nodup) (hi : X.N[i]? = some x := by rfl) (hx : Loc X.env.scope x := by first | exact .inl rfl | exact .inr rfl) (hs : swapsWith e (some (.Name x p')) pos.line X.env = pure false := by rfl)
    (hf : X.fn x = true ∨ X.env.scope.names.lookup x = some .local := by first | exact .inl rfl | exact .inr rfl) : DQ X (.Assign [.Name x p'] e pos) (tAsg te (gName i)) (uSetQ i ue) :=
  ⟨ps_set hN hi hx h.pe hs hf, fun a G0 H0 G H σ s k D cs cn q => cs.run h.snd (P := fun x => k.nx (s.set i (some (.d x)))) q.2 fun v x G' H' c' _ d _ p => cn.nx G' H' _ _ (c'.put_d q.1 d) p⟩
def ixC (so : Option (Option U)) (n : D) (k : List D → Nat → Prop) : Prop := match so with
  | some (some (.d (.list l))) => match n with
    | .int j => match ixN l.length j with
      | some n => k l n
      | none => False
    | _ => False
  | _ => False
/-- x[n] = e, x the cell -/
def uPutQ (ui ue : UE) : US := fun k s => ue s (fun r => onD r fun x => nol x = true ∧ ui s (fun r2 => onD r2 fun n => nol n = true ∧ ixC s[0]? n fun l n => k.nx (s.set 0 (some (.d (.list (l.set n x)))))) fun _ => False) fun _ => False
theorem dq_put (hn : DE X W n ti ui) (h : DE X W e te ue) (hN : X.N[0]? = some x := by rfl) (hv : Vis X.env.scope x := by first | exact .inl rfl | exact .inr (.inl rfl) | exact .inr (.inr rfl))
    (hd : (x == ("__debug__" : Str)) = false := by decide) (hcd : (x == ("__classdict__" : Str)) = false := by decide)
    (hs : swapsWithSole [.Subscript (.Name x p1) n p2] e p4.line X.env = pure false := by rfl) (hw : swappedStores [.Subscript (.Name x p1) n p2] e X.env = pure none := by rfl)
    (h1 : (assignEach [.Subscript (.Name x p1) n p2] X.env).map (·.2) = [assign (.Subscript (.Name x p1) n p2) X.env] := by rfl)
    (ha : ∀ v, assign (.Subscript (.Name x p1) n p2) X.env v = (do
      let ov ← holding [v] (eval (.Name x p1) X.env)
      let iv ← holding [v, ov] (eval n X.env)
      standAt p2
      holding [v, ov, iv] (setItem ov iv v)
      release [v, ov, iv] []) := by intro _; rfl) :
    DQ X (.Assign [.Subscript (.Name x p1) n p2] e p4) (tAsg te (gSub (tVar 0) ti rSetL)) (uPutQ ui ue) := by
  refine ⟨ps_asg h.pe (pg_sub (pe_var hN hv hd hcd) hn.pe set_list ha) hs hw h1, fun a G0 H0 G H σ s k D cs cn q => ?_⟩
  unfold uPutQ at q
  refine cs.run h.snd (P := fun x => ui s (fun r2 => onD r2 fun n => nol n = true ∧ ixC s[0]? n fun l n => k.nx (s.set 0 (some (.d (.list (l.set n x)))))) fun _ => False) q fun v y G1 H1 c1 s1 dy _ p1 => ?_
  obtain ⟨xs, l, e1, e2, e3, e4⟩ := c1.cell
  refine ⟨_, e4, ?_⟩
  refine c1.run hn.snd (P := fun n => ixC s[0]? n fun l n => k.nx (s.set 0 (some (.d (.list (l.set n y)))))) p1 fun w z G2 H2 c2 s2 dz _ p2 => ?_
  obtain ⟨xs2, l2, f1, f2, f3, f4⟩ := c2.cell
  rw [e3] at f3
  cases f3
  rw [e3] at p2
  cases dz with
  | int j =>
    unfold ixC at p2
    dsimp only at p2
    split at p2
    · next jn hj => exact ⟨a, xs2, j, jn, rfl, rfl, f1, by rw [f2.lengthH]; exact hj, cn.nx G2 _ _ _ (c2.put_cell (f2.setH (dy.subH s2))) p2⟩
    · exact p2.elim
  | _ => exact p2.elim
end
/-- data that is no object -/
def atm : D → Bool
  | .none => true
  | .bool _ => true
  | .int _ => true
  | .str _ => true
  | _ => false
theorem atm_dp {K : Fr} {F F' : Hp} {v : V} {x : D} (h : atm x = true) (d : Dp K F v x) : Dp K F' v x := by
  cases d with
  | non => exact .non
  | bl b => exact .bl b
  | int i => exact .int i
  | str y => exact .str y
  | lst => cases h
  | tup => cases h
def hole (V : List D → Prop) (s : Sl) : Prop := ∃ l, s[0]? = some (some (.d (.list l))) ∧ V l
def kQ (V : List D → Prop) (P : U → Prop) : KS := ⟨fun s => hole V s ∧ P (.d .none), fun r s => hole V s ∧ P r, fun _ => False, fun _ => False, fun _ _ => False⟩
def joinH (F G : Hp) : Hp := fun b => match F b with
  | some o => some o
  | none => G b
section
variable {P : Program} {w : World} {K : Fr} {mg : Str → Option Value} {base : Heap}
theorem CS.shut {R : Rg} {a : Addr} {F G0 G H H' : Hp} {σ : St} {s : Sl} (ok : Ok K R F H) (ha : R.a = some a) (gF : Sub G0 F) (nb : ∀ c, R.bad c → G0 c = none) (c : CS K a G0 H G H' σ s) (hv : hole R.HV s) : Gr K R F H (joinH F G) H' ∧ Sub G (joinH F G) := by
  obtain ⟨xs, l, c1, c2, c3, c4⟩ := c.cell
  obtain ⟨l2, v1, v2⟩ := hv
  rw [c3] at v1; cases v1
  have fa := ok.dis a ha
  have fH : Sub F H' := fun b o e => c.keep b o (fun z => by rw [z, fa] at e; cases e) (ok.sub b o e)
  have sF : Sub F (joinH F G) := fun b o e => by unfold joinH; rw [e]
  have sG : Sub G (joinH F G) := fun b o e => by
    unfold joinH
    cases z : F b with
    | none => exact e
    | some u => have := fH b u z; rw [c.sub b o e] at this; cases this; rfl
  have jn : ∀ b o, joinH F G b = some o → F b = some o ∨ G b = some o := fun b o e => by
    unfold joinH at e
    cases z : F b with
    | none => rw [z] at e; exact .inr e
    | some u => rw [z] at e; exact .inl e
  refine ⟨⟨sF, fun b o n e => c.keep b o (fun z => n (by rw [z]; exact ha)) e, fun b o e => ?_, ⟨fun b o e => ?_, fun b hb => ?_, fun b hb => ?_, fun b hb => ?_⟩⟩, sG⟩
  · rcases jn b o e with z | z
    · exact .inl z
    · rcases c.new b o z with y | y
      · exact .inl (gF b o y)
      · exact .inr y
  · rcases jn b o e with z | z
    · exact fH b o z
    · exact c.sub b o z
  · have e : b = a := by rw [ha] at hb; exact (Option.some.inj hb).symm
    subst e
    unfold joinH
    rw [fa]; exact c.ga
  · have e : b = a := by rw [ha] at hb; exact (Option.some.inj hb).symm
    subst e
    refine ⟨xs, _, G, c1, sG, fun q hq => ?_, c2, v2⟩
    cases z : G q with
    | none => rfl
    | some u =>
      rcases c.new q u z with y | y
      · rw [nb q hq] at y; cases y
      · exact absurd y (ok.alive q hq)
  · by_cases n : b = a
    · rw [n, c1]; simp
    · intro z
      cases y : H b with
      | none => exact ok.alive b hb y
      | some u => rw [c.keep b u n y] at z; cases z
theorem fnH {x qual : Str} {st : Stmt} {f : Addr} {fd : FuncData} {N ps : List Str} {k : Nat} {fn : Fn} (F : Fun K x qual st f fd) (S : FnScope N ps (defScope st)) (hN : ps.length ≤ N.length)
    (hbody : ∀ (cdv : Value) (A : Around) (outer : List Env) (s : Shared) (H : Hp) (E : XK), Room k (A.deeper (PyProof.Rows.envOfC qual (defScope st) s.heap.objs.size f cdv)) →
      ∃ t u, DQs (cxOf (L2.CX P w) P w K mg base N qual (defScope st) f cdv A outer s H E) (defBody st) t u ∧ ∀ (as : List U) (P : U → Prop) (PX : Ex → Prop), as.length = ps.length → fn as P PX →
        ∃ (V : List D → Prop) (xs : List D), as = .hold V :: xs.map U.d ∧ (∀ x ∈ xs, atm x = true) ∧ ∀ l, V l → u (kQ V P) (startU N (.d (.list l) :: xs.map U.d))) :
    FnOk P w K mg base (L2.CX P w) (k + 1) f fd ps (SpD K ps.length fn) := by
  refine F.okX S (fun vs H Q E h => h.len) fun cdv A outer s H vs Q E hr hsp => ?_
  obtain ⟨t, u, hd, hp⟩ := hbody cdv A outer s H E hr
  obtain ⟨R, F1, as, PP, PX, ok, ra, hn, hf, hQ, hE⟩ := hsp
  obtain ⟨V, xs, rfl, hat, hu⟩ := hp as PP PX hn hf
  have hl := ra.len
  match vs, ra, hl with
  | v0 :: vs, ra, hl =>
    obtain ⟨⟨a, rfl, ha, rfl⟩, ra2⟩ := ra
    obtain ⟨ys, l, G, g1, g2, g3, g4, g5⟩ := ok.inv a ha
    have ga : G a = none := by
      cases z : G a with
      | none => rfl
      | some o => have := g2 a o z; rw [ok.dis a ha] at this; cases this
    have gl : (U.d (.list l) :: xs.map U.d).length ≤ N.length := by simp at hn ⊢; omega
    have c0 : CS K a G H G H (L2.start N (.ref a :: vs)) (startU N (.d (.list l) :: xs.map U.d)) := by
      refine ⟨fun _ _ _ h => h, Sub.refl, g2.trans ok.sub, ga, fun _ _ h => .inl h, ?_, ⟨ys, l, g1, g4, rfl, rfl⟩, fun i r hi e => ?_⟩
      · rw [start_len _ _ (by rw [hl]; simpa using gl), startU_len _ _ gl]
      · unfold startU at e
        by_cases hb : i < (U.d (.list l) :: xs.map U.d).length
        · rw [List.getElem?_append_left (by rw [List.length_map]; exact hb), List.getElem?_map] at e
          obtain ⟨r', e1, e2⟩ := Option.map_eq_some_iff.mp e
          cases e2
          match i, hi, hb, e1 with
          | j + 1, _, hb, e1 =>
            have e1' : (xs.map U.d)[j]? = some r := by simpa using e1
            obtain ⟨v, z1, z2⟩ := ra2.get e1'
            rw [List.getElem?_map] at e1'
            obtain ⟨x, x1, rfl⟩ := Option.map_eq_some_iff.mp e1'
            refine ⟨x, v, rfl, ?_, atm_dp (hat x (List.mem_of_getElem? x1)) z2⟩
            unfold L2.start
            rw [List.getElem?_append_left (by simp at hl hb ⊢; omega), List.getElem?_map]
            simp [z1]
        · rw [List.getElem?_append_right (by rw [List.length_map]; omega), List.getElem?_replicate] at e
          split at e
          · cases e
          · cases e
    refine ⟨t, hd.ps, hd.snd a G H G H _ _ (kQ R.HV PP) _ c0 ⟨fun G' H' σ' s' c q => ?_, fun G' H' σ' s' v x c d q => ?_⟩ (hu l g5)⟩
    · obtain ⟨gr, _⟩ := c.shut ok ha g2 g3 q.1
      exact hQ .non (.d .none) _ H' gr .non q.2
    · obtain ⟨gr, sG⟩ := c.shut ok ha g2 g3 q.1
      exact hQ v (.d x) _ H' gr (Dp.subH d sG) q.2
end
end Pl

namespace Pl
open PySem L2
section
variable {X : Cx} {W : WX} {e a b c : Expr} {ta tb tc te : TE} {ua ub uc ue : UE} {pos p p2 pos2 : Pos}
/-! ### a new list times an int -/
def repD (l : List D) (n : Nat) : List D := (List.replicate n l).flatten
def uRep (ua ub : UE) : UE := fun s P PX => ua s (fun r => match r with
  | .own l => ub s (fun r' => onD r' fun y => match y with
    | .int k => -(2 ^ 63) ≤ k ∧ k < 2 ^ 63 ∧ l.length * k.toNat ≤ sizeLine ∧ P (.own (repD l k.toNat))
    | _ => False) PX
  | _ => False) PX
theorem rep_dp {K : Fr} {F : Hp} {xs : List V} {l : List D} (h : DpAll K F xs l) : ∀ n, DpAll K F (List.replicate n xs).flatten (repD l n)
  | 0 => .nil
  | n + 1 => by
    unfold repD
    rw [List.replicate_succ, List.replicate_succ, List.flatten_cons, List.flatten_cons]
    exact h.appendH (rep_dp h n)
theorem de_rep (ha : DE X W a ta ua) (hb : DE X W b tb ub) : DE X W (.BinOp a .Mult b pos) (tOp rRep ta tb) (uRep ua ub) := by
  refine ⟨pe_op op_rep ha.pe hb.pe, fun R F H σ s P PX Q rd ok q c o => ?_⟩
  refine ha.snd R F H σ s _ PX _ rd ok q (fun v r F1 H1 g rep q1 => ?_) o
  cases r with
  | own l =>
    obtain ⟨pp, xs, rfl, h1, h2, h3, h4, h5⟩ := rep
    refine hb.snd.dat (rd.sub g.ex) g.ok q1 (fun w y F2 H2 g2 d2 q2 => ?_) (o.step g)
    cases d2 with
    | int k =>
      obtain ⟨k1, k2, k3, k4⟩ := q2
      have z1 := g2.keep pp _ h5 h1
      refine ⟨pp, k, xs, rfl, rfl, z1, k1, k2, by rw [h2.lengthH]; exact k3, fun p hp => ?_⟩
      obtain ⟨g3, rep3⟩ := g2.ok.own (l := repD l k.toNat) hp (rep_dp (h2.subH g2.ex) _)
      exact c _ _ _ _ ((g.trans g2).trans g3) (rep3.back (g.trans g2)) k4
    | _ => exact q2.elim
  | d x => exact q1.elim
  | hold V => exact q1.elim
  | exc _ _ _ => exact q1.elim
/-! ### tuple(reversed(e)), e a list -/
theorem dps_rev {K : Fr} {F : Hp} : ∀ {vs : List V} {l : List D}, DpAll K F vs l → DpAll K F vs.reverse l.reverse
  | _, _, .nil => .nil
  | _, _, .cons h g => by
    rw [List.reverse_cons, List.reverse_cons]
    exact (dps_rev g).appendH (.cons h .nil)
def uTupRev (ue : UE) : UE := fun s P PX => ue s (fun r => onD r fun x => match x with
  | .list l => P (.d (.tuple l.reverse))
  | _ => False) PX
theorem de_tupRev (h : DE X W e te ue) (hc : X.calm = true) (hg : Gl X "tuple") (hm : X.mg "tuple" = none) (hg2 : Gl X "reversed") (hm2 : X.mg "reversed" = none)
    (hs : starEach [e] X.env = (false, eval e X.env) :: starEach [] X.env := by rfl)
    (hs2 : starEach [.Call (.Name "reversed" p2) [e] [] pos2] X.env = (false, eval (.Call (.Name "reversed" p2) [e] [] pos2) X.env) :: starEach [] X.env := by rfl) :
    DE X W (.Call (.Name "tuple" p) [.Call (.Name "reversed" p2) [e] [] pos2] [] pos) (RT.tTupRev X.K te) (uTupRev ue) := by
  refine ⟨RT.pe_tupRev hc hg hm hg2 hm2 h.pe hs hs2, fun R F H σ s P PX Q rd ok q c o => ?_⟩
  refine h.snd.dat rd ok q (fun v x F1 H1 g d q => ?_) o
  cases d with
  | @lst a xs l hs ha =>
    have sq : SqL X.K H1 a xs := g.ok.sub.l hs
    refine ⟨a, xs, rfl, sq, fun p hp => ?_⟩
    have g2 := g.ok.frz (o := .tup xs.reverse) hp
    exact c _ (.d (.tuple l.reverse)) _ _ (g.trans g2) (.tup (.inl (.inl upd_same)) ((dps_rev ha).subH g2.ex)) q
  | _ => exact q.elim
end
end Pl

namespace Pl
open PySem L2
/-! ### a def that is had: where it stands, its text, what it does -/
structure Has (P : Program) (w : World) (K : Fr) (mg : Str → Option Value) (base : Heap) (k : Nat) (x : Str) (st : Stmt) (ps : List Str) (fn : Fn) (fd : FuncData) : Prop where
  gl : mg x = some (.ref (He.ga K x))
  kp : PySem.W.keepIn K (.ref (He.ga K x)) = true
  fu : Fun K x x st (He.ga K x) fd
  b : Binds K fd ps []
  ok : FnOk P w K mg base (L2.CX P w) k (He.ga K x) fd ps (SpD K ps.length fn)
section
variable {P : Program} {w : World} {K : Fr} {mg : Str → Option Value} {base : Heap} {X : Cx} {W : WX} {k : Nat} {x : Str} {st : Stmt} {ps : List Str} {fn : Fn} {fd : FuncData} {e : Expr} {es : List Expr} {t tk : TA} {ut uk : UA} {p pos : Pos} {kws : List Keyword} {ks : List Str} {π : List Nat}
/-- the module that X runs in -/
structure Md (X : Cx) (P : Program) (w : World) (K : Fr) (mg : Str → Option Value) (base : Heap) : Prop where
  p : X.prog = P
  w : X.w = w
  k : X.K = K
  m : X.mg = mg
  b : X.base = base
theorem de_own (h : Has P w K mg base k x st ps fn fd) (md : Md X P w K mg base) (hr : Room k X.A) (hg : Gl X x) (air : Air X W) (ha : DA X W (e :: es) t ut)
    (hdb : (x == ("__debug__" : Str)) = false := by decide) (he : starEach (e :: es) X.env = (false, eval e X.env) :: starEach es X.env := by rfl) (hpl : (backTo pos (starEach es X.env)).any (·.1) = false := by rfl) :
    DE X W (.Call (.Name x p) (e :: es) [] pos) (tCallS (SpD K ps.length fn) (WE W) t) (uCall ps.length fn ut) := by
  obtain ⟨rfl, rfl, rfl, rfl, rfl⟩ := md
  exact de_call h.ok hr hg h.gl h.kp h.b air ha hdb he hpl
theorem de_ownK0 (h : Has P w K mg base k x st ps fn fd) (md : Md X P w K mg base) (hr : Room k X.A) (hg : Gl X x) (hb : KB K fd ps ks 0 π) (air : Air X W) (hk : DK X W kws tk uk)
    (hall : (backToKw pos (keywordEach kws X.env)).all (·.1.isSome) = true := by rfl) (hks : (backToKw pos (keywordEach kws X.env)).filterMap (·.1) = ks := by rfl) (hdb : (x == ("__debug__" : Str)) = false := by decide)
    (hpl : ((backTo pos (starEach [] X.env)).any (·.1) || (backToKw pos (keywordEach kws X.env)).any (·.1.isNone)) = false := by rfl) :
    DE X W (.Call (.Name x p) [] kws pos) (tCallP (SpD K ps.length fn) π 0 ks.length (WE W) tNil tk) (uCallP ps.length fn π 0 ks.length uNil uk) := by
  obtain ⟨rfl, rfl, rfl, rfl, rfl⟩ := md
  exact de_callK0 h.ok hr hg h.gl h.kp hb air hk hall hks hdb hpl
theorem de_ownK (h : Has P w K mg base k x st ps fn fd) (md : Md X P w K mg base) (hr : Room k X.A) (hg : Gl X x) {m : Nat} (hb : KB K fd ps ks m π) (air : Air X W) (ha : DA X W (e :: es) t ut) (hk : DK X W kws tk uk)
    (hall : (backToKw pos (keywordEach kws X.env)).all (·.1.isSome) = true := by rfl) (hks : (backToKw pos (keywordEach kws X.env)).filterMap (·.1) = ks := by rfl) (hdb : (x == ("__debug__" : Str)) = false := by decide) (he : starEach (e :: es) X.env = (false, eval e X.env) :: starEach es X.env := by rfl)
    (hpl : ((backTo pos (starEach (e :: es) X.env)).any (·.1) || (backToKw pos (keywordEach kws X.env)).any (·.1.isNone)) = false := by rfl) :
    DE X W (.Call (.Name x p) (e :: es) kws pos) (tCallP (SpD K ps.length fn) π m ks.length (WE W) t tk) (uCallP ps.length fn π m ks.length ut uk) := by
  obtain ⟨rfl, rfl, rfl, rfl, rfl⟩ := md
  exact de_callK h.ok hr hg h.gl h.kp hb air ha hk hall hks hdb he hpl
end

/-! ### the law: the cell of draws is made, then held -/
def spLaw (K : Fr) : Sp := fun vs H Q E => ∃ (a : Addr) (ns : List Int), vs = [.ref a] ∧ ns.length ≤ 63 ∧ SqL K H a (ns.map V.int) ∧ ∀ H', Q (.bl true) H'
def kT : KS := ⟨fun _ => False, fun r _ => r = .d (.bool true), fun _ => False, fun _ => False, fun _ _ => False⟩
def noOwn (s : Sl) : Prop := ∀ (i : Nat) (l : List D), s[i]? ≠ some (some (U.own l))
/-- behind the first statement: slot i holds the new cell -/
def kHold (i : Nat) (ur : US) : KS := ⟨fun s => ∃ l V, s[i]? = some (some (.own l)) ∧ V l ∧ noOwn (s.set i (some (.hold V))) ∧ ur kT (s.set i (some (.hold V))), fun _ _ => False, fun _ => False, fun _ => False, fun _ _ => False⟩
def scriptD (ns : List Int) : D := .list (ns.map .int)
theorem dps_ints {K : Fr} {F : Hp} : ∀ (ns : List Int), DpAll K F (ns.map V.int) (ns.map .int)
  | [] => .nil
  | n :: ns => .cons (.int n) (dps_ints ns)
theorem SndS.hold {K : Fr} {W : WX} {t0 tr : TS} {u0 ur : US} {i : Nat} (h0 : SndS K W t0 u0) (hr : SndS K W tr ur) {F H : Hp} {σ : St} {s : Sl} {D : Ends} (rs : RepS K Rg.no F H F H σ s) (q : u0 (kHold i ur) s) (hD : ∀ H', D.rt (.bl true) H') : tSeq t0 tr D σ H := by
  refine h0 Rg.no F H F H σ s (kHold i ur) _ rs ⟨fun F1 H1 σ1 s1 r1 q1 => ?_, fun _ _ _ _ _ _ _ _ z => z.elim, fun _ _ _ _ _ z => z.elim, fun _ _ _ _ _ z => z.elim, fun _ _ _ _ _ _ _ _ _ z => z.elim⟩ q
  obtain ⟨l, V, e1, v1, no, q2⟩ := q1
  obtain ⟨A, z1, z2⟩ := r1.sl
  obtain ⟨v, y1, rfl, y3, y4, xs, y5, y6⟩ := z1 i _ e1
  have len := r1.len
  have ok1 := r1.g.ok
  have ok2 : Ok K ⟨some (A i), V, fun _ => False⟩ F1 H1 := ⟨ok1.sub, fun b hb => by cases hb; exact y4, fun b hb => by cases hb; exact ⟨xs, l, F1, y5, Sub.refl, fun _ z => z.elim, y6, v1⟩, fun _ z => z.elim⟩
  have r2 : RepS K ⟨some (A i), V, fun _ => False⟩ F1 H1 F1 H1 σ1 (s1.set i (some (.hold V))) := by
    refine ⟨ok2.refl, fun b hb => by cases hb; rw [y5]; simp, by rw [List.length_set]; exact len, fun _ => 0, fun j r e => ?_, fun j j' l m e _ _ => absurd e (no j l)⟩
    rcases get_set e with ⟨rfl, e3, _⟩ | ⟨n, e3⟩
    · cases e3
      exact ⟨_, y1, A j, rfl, rfl, rfl⟩
    · obtain ⟨w, x1, x2⟩ := z1 j r e3
      refine ⟨w, x1, ?_⟩
      cases r with
      | d x => exact x2
      | own l => exact absurd e (no j l)
      | hold V => obtain ⟨_, _, z, _⟩ := x2; cases z
      | exc a dd fs => exact x2
  refine hr _ F1 H1 F1 H1 σ1 _ kT D r2 ⟨fun _ _ _ _ _ z => z.elim, fun F2 H2 σ2 s2 v r _ rep z => ?_, fun _ _ _ _ _ z => z.elim, fun _ _ _ _ _ z => z.elim, fun _ _ _ _ _ _ _ _ _ z => z.elim⟩ q2
  have z' : r = .d (.bool true) := z
  subst z'
  cases (rep : Dp K F2 v (.bool true))
  exact hD H2
section
variable {P : Program} {w : World} {K : Fr} {mg : Str → Option Value} {base : Heap}
theorem fnLaw {x qual : Str} {st : Stmt} {f : Addr} {fd : FuncData} {N ps : List Str} {k i : Nat} {st0 : Stmt} {rest : List Stmt} (F : Fun K x qual st f fd) (S : FnScope N ps (defScope st)) (h1 : ps.length = 1) (hN : 1 ≤ N.length) (hb : defBody st = st0 :: rest)
    (hbody : ∀ (cdv : Value) (A : Around) (outer : List Env) (s : Shared) (H : Hp) (E : XK), Room k (A.deeper (PyProof.Rows.envOfC qual (defScope st) s.heap.objs.size f cdv)) →
      ∃ t0 u0 tr ur, DS (cxOf (L2.CX P w) P w K mg base N qual (defScope st) f cdv A outer s H E) (fun cls d _ H => E cls d H) st0 t0 u0 ∧ DSs (cxOf (L2.CX P w) P w K mg base N qual (defScope st) f cdv A outer s H E) (fun cls d _ H => E cls d H) rest tr ur ∧
        ∀ ns : List Int, ns.length ≤ 63 → u0 (kHold i ur) (startU N [.d (scriptD ns)])) :
    FnOk P w K mg base (L2.CX P w) (k + 1) f fd ps (spLaw K) := by
  refine F.okX S (fun vs H Q E h => ?_) fun cdv A outer s H vs Q E hr hsp => ?_
  · obtain ⟨a, ns, rfl, _⟩ := h
    rw [h1]; rfl
  · obtain ⟨t0, u0, tr, ur, d0, dr, hp⟩ := hbody cdv A outer s H E hr
    obtain ⟨a, ns, rfl, hn, hs, hQ⟩ := hsp
    refine ⟨tSeq t0 tr, by rw [hb]; exact pss_cons d0.ps dr.ps, ?_⟩
    have ok : Ok K Rg.no H H := ⟨Sub.refl, fun b z => (by cases z), fun b z => (by cases z), fun b z => z.elim⟩
    exact d0.snd.hold dr.snd (repS_start (vs := [.ref a]) (as := [.d (scriptD ns)]) ok ⟨.lst hs (dps_ints ns), trivial⟩ hN) (hp ns hn) hQ
end
end Pl

namespace Pl
open PySem L2
theorem bt_len : bootBuiltins "len" = some (.builtin "len") := by first | rfl | kernel_rfl
theorem bt_abs : bootBuiltins "abs" = some (.builtin "abs") := by first | rfl | kernel_rfl
theorem bt_all : bootBuiltins "all" = some (.builtin "all") := by first | rfl | kernel_rfl
theorem bt_any : bootBuiltins "any" = some (.builtin "any") := by first | rfl | kernel_rfl
theorem bt_sum : bootBuiltins "sum" = some (.builtin "sum") := by first | rfl | kernel_rfl
theorem bt_isi : bootBuiltins "isinstance" = some (.builtin "isinstance") := by first | rfl | kernel_rfl
theorem bt_int : bootBuiltins "int" = some (.type "int") := by first | rfl | kernel_rfl
theorem bt_bool : bootBuiltins "bool" = some (.type "bool") := by first | rfl | kernel_rfl
theorem bt_str : bootBuiltins "str" = some (.type "str") := by first | rfl | kernel_rfl
theorem bt_tuple : bootBuiltins "tuple" = some (.type "tuple") := by first | rfl | kernel_rfl
theorem bt_list : bootBuiltins "list" = some (.type "list") := by first | rfl | kernel_rfl
theorem bt_VE : bootBuiltins "ValueError" = some (.type "ValueError") := by first | rfl | kernel_rfl
/-! ### a comparison as a test -/
def onBool (r : U) (k : Bool → Prop) : Prop := match r with
  | .d (.bool b) => k b
  | _ => False
def uTst (u : UE) : UT := fun s P PX => u s (fun r => onBool r P) PX
theorem dt_cmp {X : Cx} {W : WX} {a b : Expr} {pos : Pos} {ta tb : TE} {ua ub : UE} {op : CmpOp} {r : R2} {o : Op2} (h : DO X (compareOp op) r o) (ha : DE X W a ta ua) (hb : DE X W b tb ub) (hm : behindInMarks op b = false := by first | exact nomark _ | rfl) :
    DT X W (.Compare a [op] [b] pos) (tTest (tOp r ta tb)) (uTst (uOp o ua ub)) := by
  refine ⟨pt_cmpR h.op ha.pe hb.pe hm, fun R F H σ s P PX Q rd ok q c o => ?_⟩
  refine snd_op h.snd ha.snd hb.snd R F H σ s _ PX _ rd ok q (fun v r F1 H1 g rep p => ?_) o
  unfold onBool at p
  split at p
  · cases (rep : Dp X.K F1 v (.bool _))
    exact ⟨_, rfl, c _ F1 H1 g p⟩
  · exact p.elim
/-- a comprehension's block, told by a reckoning -/
def blkB (N : List Str) (sc scope : Scope) (own : List (Str × Nat)) : Bool :=
  (match scope.kind with | .function => true | _ => false) && (scope.names.all fun y => decide (scope.names.lookup y.1 = some y.2)) && (own.all fun p => decide (N[p.2]? = some p.1)) &&
  (scope.names.all fun y => decide (y.2 ≠ .free) || decide (sc.names.lookup y.1 = some .cell) || decide (sc.names.lookup y.1 = some .free)) &&
  (scope.names.all fun y => decide (¬ (y.2 = .local ∨ y.2 = .cell)) || decide (y.1 ∈ own.map (·.1)) || decide (y.1 ∉ N))
theorem blk_of {N : List Str} {sc scope : Scope} {own : List (Str × Nat)} (h : blkB N sc scope own = true) : BlkOk N sc scope own := by
  unfold blkB at h
  simp only [Bool.and_eq_true, List.all_eq_true, Bool.or_eq_true, decide_eq_true_eq] at h
  obtain ⟨⟨⟨⟨h1, h2⟩, h3⟩, h4⟩, h5⟩ := h
  refine ⟨?_, h2, h3, fun y hy hf => ?_, fun y hy hl => ?_⟩
  · cases hk : scope.kind <;> simp_all
  · rcases h4 y hy with (z | z) | z
    · exact absurd hf z
    · exact .inl z
    · exact .inr z
  · rcases h5 y hy with (z | z) | z
    · exact absurd hl z
    · exact .inl z
    · exact .inr z
abbrev WD (E : XK) : WX := fun cls d _ H => E cls d H
section
variable {P : Program} {w : World} {K : Fr} {mg : Str → Option Value} {base : Heap} {N : List Str} {qual : Str} {sc : Scope} {f : Addr} {cdv : Value} {A : Around} {outer : List Env} {s : Shared} {H : Hp} {E : XK}
abbrev XD (P : Program) (w : World) (K : Fr) (mg : Str → Option Value) (base : Heap) (N : List Str) (qual : Str) (sc : Scope) (f : Addr) (cdv : Value) (A : Around) (outer : List Env) (s : Shared) (H : Hp) (E : XK) : Cx := cxOf (L2.CX P w) P w K mg base N qual sc f cdv A outer s H E
theorem tkD : Takes (XD P w K mg base N qual sc f cdv A outer s H E) (WD E) := takes_of rfl rfl rfl rfl
theorem airD : Air (XD P w K mg base N qual sc f cdv A outer s H E) (WD E) := fun σ => passAt tkD σ
theorem poD : PassesOwn (model (XD P w K mg base N qual sc f cdv A outer s H E).prog (XD P w K mg base N qual sc f cdv A outer s H E).w) (XD P w K mg base N qual sc f cdv A outer s H E).A (XD P w K mg base N qual sc f cdv A outer s H E).env (XD P w K mg base N qual sc f cdv A outer s H E).xe := passes_of rfl
end
end Pl

/-! the rules again, the written part named apart (for blocks) -/
namespace Pl
open PySem L2
section
variable {X : Cx} {W : WX} {e a b c : Expr} {ta tb tc te : TE} {ua ub uc u : UE} {pos : Pos}
theorem do_addk {KK : Fr} (hKK : X.K = KK := by rfl) : DO X (binaryOp .Add) (rAddG KK) oAdd := by
  subst hKK
  exact do_add 
end
section
variable {X : Cx} {W : WX} {e a b c : Expr} {ta tb tc te : TE} {ua ub uc u : UE} {pos : Pos}
theorem do_eqk {KK : Fr} (hu : X.A.units + 64 < cLine) (hKK : X.K = KK := by rfl) : DO X (compareOp .Eq) (rEqD KK) (oEq false) := by
  subst hKK
  exact do_eq hu
end
section
variable {X : Cx} {W : WX} {e a b c : Expr} {ta tb tc te : TE} {ua ub uc u : UE} {pos : Pos}
theorem do_nek {KK : Fr} (hu : X.A.units + 64 < cLine) (hKK : X.K = KK := by rfl) : DO X (compareOp .NotEq) (rNeD KK) (oEq true) := by
  subst hKK
  exact do_ne hu
end
section
variable {X : Cx} {W : WX} {e a b c : Expr} {ta tb tc te : TE} {ua ub uc u : UE} {pos : Pos}
theorem dt_truk {KK : Fr} (ha : DE X W a ta ua) (he : ∀ whole, isTrue a X.env whole = (do let v ← whole; standAt a.pos; holding [v] (truthy v)) := by intro _; rfl) (hKK : X.K = KK := by rfl) : DT X W a (fun σ H Q => ta σ H fun x H' => ∃ k, TruV KK x H' k ∧ Q k H') (uTru ua) := by
  subst hKK
  exact dt_tru ha he
end
section
variable {X : Cx} {W : WX} {e a b c : Expr} {ta tb tc te : TE} {ua ub uc u : UE} {pos : Pos}
theorem de_andk {KK : Fr} {rest : List Expr} (h : DE X W a ta ua) (h' : DE X W (.BoolOp .And (b :: rest) pos) tb ub) (hKK : X.K = KK := by rfl) : DE X W (.BoolOp .And (a :: b :: rest) pos) (tAndT KK ta tb) (uAndV ua ub) := by
  subst hKK
  exact de_and h h'
end
section
variable {X : Cx} {W : WX} {e a b c : Expr} {ta tb tc te : TE} {ua ub uc u : UE} {pos : Pos}
theorem de_ork {KK : Fr} {rest : List Expr} (h : DE X W a ta ua) (h' : DE X W (.BoolOp .Or (b :: rest) pos) tb ub) (hKK : X.K = KK := by rfl) : DE X W (.BoolOp .Or (a :: b :: rest) pos) (tOrT KK ta tb) (uOrV ua ub) := by
  subst hKK
  exact de_or h h'
end
section
variable {X : Cx} {W : WX} {e a b c : Expr} {ta tb tc te : TE} {ua ub uc u : UE} {pos : Pos}
theorem de_notk {KK : Fr} (h : DE X W a ta ua) (hKK : X.K = KK := by rfl) : DE X W (.UnaryOp .Not a pos) (tNotT KK ta) (uNotV ua) := by
  subst hKK
  exact de_not h
end
section
variable {X : Cx} {W : WX} {e a b c : Expr} {es : List Expr} {ta tb tc te : TE} {ua ub uc u : UE} {t : TA} {ut : UA} {pos p : Pos}
theorem de_ixk {KK : Fr} (ha : DE X W a ta ua) (hb : DE X W b tb ub) (hs : PlainIx b := by intro _ _; rfl) (hKK : X.K = KK := by rfl) : DE X W (.Subscript a b pos) (tOp (rIxS2 KK) ta tb) (uOp oIx ua ub) := by
  subst hKK
  exact de_ix ha hb hs
end
section
variable {X : Cx} {W : WX} {e a b c : Expr} {es : List Expr} {ta tb tc te : TE} {ua ub uc u : UE} {t : TA} {ut : UA} {pos p : Pos}
theorem de_slicek {KK : Fr} {lo hi : Option Expr} {tl th : TO} {ul uh : UO} {p2} (h : DE X W e te u) (hl : DOp X W lo tl ul) (hh : DOp X W hi th uh) (hKK : X.K = KK := by rfl) : DE X W (.Subscript e (.Slice lo hi none p2) pos) (tSl (rSlG KK) te tl th) (uSl u ul uh) := by
  subst hKK
  exact de_slice h hl hh
end
section
variable {X : Cx} {W : WX} {e a b c : Expr} {es : List Expr} {ta tb tc te : TE} {ua ub uc u : UE} {t : TA} {ut : UA} {pos p : Pos}
theorem dc_lenk {KK : Fr} (hKK : X.K = KK := by rfl) : DC X (.builtin "len") (rLenA KK) oLen := by
  subst hKK
  exact dc_len 
end
section
variable {X : Cx} {W : WX} {e a b c : Expr} {es : List Expr} {ta tb tc te : TE} {ua ub uc u : UE} {t : TA} {ut : UA} {pos p : Pos}
theorem dc_listk {KK : Fr} (hKK : X.K = KK := by rfl) : DC X (.type "list") (rListA KK) oList := by
  subst hKK
  exact dc_list 
end
section
variable {X : Cx} {W : WX} {e a b c : Expr} {es : List Expr} {ta tb tc te : TE} {ua ub uc u : UE} {t : TA} {ut : UA} {pos p : Pos}
theorem dc_tuplek {KK : Fr} (hKK : X.K = KK := by rfl) : DC X (.type "tuple") (rTupA KK) oTuple := by
  subst hKK
  exact dc_tuple 
end
section
variable {X : Cx} {W : WX} {e a b c : Expr} {es : List Expr} {ta tb tc te : TE} {ua ub uc u : UE} {t : TA} {ut : UA} {pos p : Pos}
theorem dc_allk {KK : Fr} (hc : X.calm = true) (hKK : X.K = KK := by rfl) : DC X (.builtin "all") (rAll KK) oAll := by
  subst hKK
  exact dc_all hc
end
section
variable {X : Cx} {W : WX} {e a b c : Expr} {es : List Expr} {ta tb tc te : TE} {ua ub uc u : UE} {t : TA} {ut : UA} {pos p : Pos}
theorem dc_anyk {KK : Fr} (hc : X.calm = true) (hKK : X.K = KK := by rfl) : DC X (.builtin "any") (rAny KK) oAny := by
  subst hKK
  exact dc_any hc
end
section
variable {X : Cx} {W : WX} {e a b c : Expr} {es : List Expr} {ta tb tc te : TE} {ua ub uc u : UE} {t : TA} {ut : UA} {pos p : Pos}
theorem dc_sumk {KK : Fr} (hc : X.calm = true) (hKK : X.K = KK := by rfl) : DC X (.builtin "sum") (rSum KK) oSum := by
  subst hKK
  exact dc_sum hc
end
section
variable {X : Cx} {W : WX} {e a b c : Expr} {st : Stmt} {rest body orelse : List Stmt} {ta tb tc te : TE} {ua ub uc ue : UE} {t t' : TS} {u u' : US} {tt : TT} {ut : UT} {pos p : Pos} {x : Str} {p1 p2 p3 p4 : Pos}
theorem ds_appk {KK : Fr} (m : Bool) (i : Nat) (h : DE X W e te ue) (hN : X.N[i]? = some x := by rfl) (hv : Vis X.env.scope x := by first | exact .inl rfl | exact .inr (.inl rfl) | exact .inr (.inr rfl))
    (hd : (x == ("__debug__" : Str)) = false := by decide) (hcd : (x == ("__classdict__" : Str)) = false := by decide)
    (hs : swapsWith (.Call (.Attribute (.Name x p1) "append" p2) [e] [] p3) none p4.line X.env = pure false := by rfl) (he : starEach (e :: []) X.env = (false, eval e X.env) :: starEach [] X.env := by rfl) (hpl : (backTo p3 (starEach [] X.env)).any (·.1) = false := by rfl)
    (hbase : attributeBase (.Name x p1) "append" X.env (eval (.Name x p1) X.env) = eval (.Name x p1) X.env := by rfl)
    (hfew : ((backTo p3 (starEach (e :: []) X.env)).all (fun x => !x.1) && (backToKw p3 (keywordEach [] X.env)).all (fun x => x.1.isSome)
      && decide ((e :: []).length + ([] : List Keyword).length + (if ([] : List Keyword).isEmpty then 0 else 1) < 30)) = true := by rfl)
    (hline : (p2.endLine == p3.line) = true := by rfl) (hKK : X.K = KK := by rfl) :
    DS X W (.Expr (.Call (.Attribute (.Name x p1) "append" p2) [e] [] p3) p4) (tDrop (tBM KK "list" rAppend (tVar i) (tCons te tNil))) (uApp m i ue) := by
  subst hKK
  exact ds_app m i h hN hv hd hcd hs he hpl hbase hfew hline
end
section
variable {X : Cx} {W : WX} {e a b c : Expr} {st : Stmt} {rest body orelse : List Stmt} {ta tb tc te : TE} {ua ub uc ue : UE} {t t' : TS} {u u' : US} {tt : TT} {ut : UT} {pos p : Pos} {x : Str} {p1 p2 p3 p4 : Pos}
theorem ds_insk {KK : Fr} {ti : TE} {ui : UE} {n : Expr} (m : Bool) (i : Nat) (hn : DE X W n ti ui) (h : DE X W e te ue) (hN : X.N[i]? = some x := by rfl) (hv : Vis X.env.scope x := by first | exact .inl rfl | exact .inr (.inl rfl) | exact .inr (.inr rfl))
    (hd : (x == ("__debug__" : Str)) = false := by decide) (hcd : (x == ("__classdict__" : Str)) = false := by decide)
    (hs : swapsWith (.Call (.Attribute (.Name x p1) "insert" p2) [n, e] [] p3) none p4.line X.env = pure false := by rfl) (he : starEach (n :: [e]) X.env = (false, eval n X.env) :: starEach [e] X.env := by rfl) (he2 : starEach (e :: []) X.env = (false, eval e X.env) :: starEach [] X.env := by rfl) (hpl : (backTo p3 (starEach [e] X.env)).any (·.1) = false := by rfl)
    (hbase : attributeBase (.Name x p1) "insert" X.env (eval (.Name x p1) X.env) = eval (.Name x p1) X.env := by rfl)
    (hfew : ((backTo p3 (starEach (n :: [e]) X.env)).all (fun x => !x.1) && (backToKw p3 (keywordEach [] X.env)).all (fun x => x.1.isSome)
      && decide ((n :: [e]).length + ([] : List Keyword).length + (if ([] : List Keyword).isEmpty then 0 else 1) < 30)) = true := by rfl)
    (hline : (p2.endLine == p3.line) = true := by rfl) (hKK : X.K = KK := by rfl) :
    DS X W (.Expr (.Call (.Attribute (.Name x p1) "insert" p2) [n, e] [] p3) p4) (tDrop (tBM KK "list" rInsA (tVar i) (tCons ti (tCons te tNil)))) (uIns m i ui ue) := by
  subst hKK
  exact ds_ins m i hn h hN hv hd hcd hs he he2 hpl hbase hfew hline
end
section
variable {X : Cx} {W : WX} {e a b c : Expr} {st : Stmt} {rest body orelse : List Stmt} {ta tb tc te : TE} {ua ub uc ue : UE} {t t' : TS} {u u' : US} {tt : TT} {ut : UT} {pos p : Pos} {x : Str} {p1 p2 p3 p4 : Pos}
theorem ds_putAk {KK : Fr} {op : Operator} {f : Int → Int → Int} {ti : TE} {ui : UE} {n : Expr} (m : Bool) (i : Nat) (ho : DIp X op f) (hn : DE X W n ti ui) (h : DE X W e te ue) (hN : X.N[i]? = some x := by rfl) (hv : Vis X.env.scope x := by first | exact .inl rfl | exact .inr (.inl rfl) | exact .inr (.inr rfl))
    (hd : (x == ("__debug__" : Str)) = false := by decide) (hcd : (x == ("__classdict__" : Str)) = false := by decide)
    (ha : ∀ ov iv new, augStore n ov iv new = (do holding [new, ov, iv] (setItem ov iv new); release [new, ov, iv] []; pure .next) := by intros; rfl) (hKK : X.K = KK := by rfl) :
    DS X W (.AugAssign (.Subscript (.Name x p1) n p2) op e p4) (tAugS (tVar i) ti te (rIxL KK) (ipI f) rSetL) (uPutA f m i ui ue) := by
  subst hKK
  exact ds_putA m i ho hn h hN hv hd hcd ha
end
section
variable {X : Cx} {W : WX} {tg e a b : Expr} {te ta tb : TE} {ue ua ub : UE} {t : TA} {ut : UA} {pos p : Pos}
theorem di_seqk {KK : Fr} (h : DE X W e te ue) (hKK : X.K = KK := by rfl) : DI X W tg e (iSeq KK te) (uSeqI ue) := by
  subst hKK
  exact di_seq h
end
section
variable {X : Cx} {W : WX} {tg e a b : Expr} {te ta tb : TE} {ue ua ub : UE} {t : TA} {ut : UA} {pos p : Pos}
theorem dg_tup2k {KK : Fr} {x y : Str} {kk : Nat} {px py : Pos} (i j : Nat) (hc : X.calm = true) (hN : X.N.Nodup) (hi : X.N[i]? = some x := by rfl) (hj : X.N[j]? = some y := by rfl) (hx : Loc X.env.scope x := by first | exact .inl rfl | exact .inr rfl) (hy : Loc X.env.scope y := by first | exact .inl rfl | exact .inr rfl)
    (hf : X.fn x = true ∨ X.env.scope.names.lookup x = some .local := by first | exact .inl rfl | exact .inr rfl) (hf2 : X.fn y = true ∨ X.env.scope.names.lookup y = some .local := by first | exact .inl rfl | exact .inr rfl)
    (h1 : (assignEach [.Name x px, .Name y py] X.env).map (·.2) = assign (.Name x px) X.env :: (assignEach [.Name y py] X.env).map (·.2) := by rfl) (h2 : (assignEach [.Name y py] X.env).map (·.2) = assign (.Name y py) X.env :: (assignEach [] X.env).map (·.2) := by rfl)
    (hn : (assignEach [.Name x px, .Name y py] X.env).length = 2 := by rfl) (hst : (assignEach [.Name x px, .Name y py] X.env).findIdx? (·.1) = none := by rfl) (hKK : X.K = KK := by rfl) :
    DG X (.Tuple [.Name x px, .Name y py] kk pos) (gTup KK 2 (gCons (gName i) (gCons (gName j) gNil))) (ugT2 i j) := by
  subst hKK
  exact dg_tup2 i j hc hN hi hj hx hy hf hf2 h1 h2 hn hst
end
section
variable {X : Cx} {W : WX} {e : Expr} {te : TE} {ta : TA} {ue : UE} {p pos tpos : Pos} {elts : List Expr} {kk : Nat}
theorem di_enumk {KK : Fr} (h : DE X W e te ue) (hg : Gl X "enumerate") (hm : X.mg "enumerate" = none) (hs : starEach [e] X.env = [(false, eval e X.env)] := by rfl) (hs2 : starEach (e :: []) X.env = (false, eval e X.env) :: starEach [] X.env := by rfl) (hKK : X.K = KK := by rfl) :
    DI X W (.Tuple elts kk tpos) (.Call (.Name "enumerate" p) [e] [] pos) (iEnumA KK (tCons te tNil)) (uEnum ue) := by
  subst hKK
  exact di_enum h hg hm hs hs2
end
section
variable {X : Cx} {W : WX} {e : Expr} {es : List Expr} {te : TE} {ue : UE} {t : TA} {ut : UA} {pos p p2 p3 : Pos}
theorem de_isk {KK : Fr} {nm : Str} (T : Ty) (h : DE X W e te ue) (hg : Gl X "isinstance") (hm : X.mg "isinstance" = none) (hv : bootBuiltins "isinstance" = some (.builtin "isinstance")) (hg2 : Gl X nm) (hm2 : X.mg nm = none) (hv2 : bootBuiltins nm = some (.type T.s)) (hn2 : nm ≠ "__name__" := by decide) (hd2 : (nm == ("__debug__" : Str)) = false := by decide)
    (he : starEach (e :: [.Name nm p2]) X.env = (false, eval e X.env) :: starEach [.Name nm p2] X.env := by rfl) (he2 : starEach (.Name nm p2 :: []) X.env = (false, eval (.Name nm p2) X.env) :: starEach [] X.env := by rfl) (hpl : (backTo pos (starEach [.Name nm p2] X.env)).any (·.1) = false := by rfl) (hKK : X.K = KK := by rfl) :
    DE X W (.Call (.Name "isinstance" p) [e, .Name nm p2] [] pos) (tCB (rIsi KK) (tCons te (tCons (tC (.ty T.s)) tNil))) (uIs T ue) := by
  subst hKK
  exact de_is T h hg hm hv hg2 hm2 hv2 hn2 hd2 he he2 hpl
end
section
variable {X : Cx} {W : WX} {e : Expr} {es : List Expr} {te : TE} {ue : UE} {t : TA} {ut : UA} {pos p p2 p3 : Pos}
theorem de_is2k {KK : Fr} {nm nm' : Str} {kk : Nat} {p4 : Pos} (T T' : Ty) (h : DE X W e te ue) (hg : Gl X "isinstance") (hm : X.mg "isinstance" = none) (hv : bootBuiltins "isinstance" = some (.builtin "isinstance")) (hg2 : Gl X nm) (hm2 : X.mg nm = none) (hv2 : bootBuiltins nm = some (.type T.s)) (hg3 : Gl X nm') (hm3 : X.mg nm' = none) (hv3 : bootBuiltins nm' = some (.type T'.s))
    (hn2 : nm ≠ "__name__" := by decide) (hd2 : (nm == ("__debug__" : Str)) = false := by decide) (hn3 : nm' ≠ "__name__" := by decide) (hd3 : (nm' == ("__debug__" : Str)) = false := by decide)
    (he : starEach (e :: [.Tuple [.Name nm p2, .Name nm' p3] kk p4]) X.env = (false, eval e X.env) :: starEach [.Tuple [.Name nm p2, .Name nm' p3] kk p4] X.env := by rfl) (he2 : starEach (.Tuple [.Name nm p2, .Name nm' p3] kk p4 :: []) X.env = (false, eval (.Tuple [.Name nm p2, .Name nm' p3] kk p4) X.env) :: starEach [] X.env := by rfl)
    (he3 : starEach (.Name nm p2 :: [.Name nm' p3]) X.env = (false, eval (.Name nm p2) X.env) :: starEach [.Name nm' p3] X.env := by rfl) (he4 : starEach (.Name nm' p3 :: []) X.env = (false, eval (.Name nm' p3) X.env) :: starEach [] X.env := by rfl) (hpl : (backTo pos (starEach [.Tuple [.Name nm p2, .Name nm' p3] kk p4] X.env)).any (·.1) = false := by rfl) (hKK : X.K = KK := by rfl) :
    DE X W (.Call (.Name "isinstance" p) [e, .Tuple [.Name nm p2, .Name nm' p3] kk p4] [] pos) (tCB (rIsiT KK) (tCons te (tCons (tTup (tCons (tC (.ty T.s)) (tCons (tC (.ty T'.s)) tNil))) tNil))) (uIs2 T T' ue) := by
  subst hKK
  exact de_is2 T T' h hg hm hv hg2 hm2 hv2 hg3 hm3 hv3 hn2 hd2 hn3 hd3 he he2 he3 he4 hpl
end
section
variable {X : Cx} {W : WX} {e : Expr} {es : List Expr} {t : TA} {ut : UA} {pos p : Pos} {k n : Nat} {f : Addr} {fd : FuncData} {ps : List Str} {fn : Fn} {x : Str}
theorem de_callk {KK : Fr} (F : FnOk X.prog X.w X.K X.mg X.base (L2.CX X.prog X.w) k f fd ps (SpD X.K n fn)) (hr : Room k X.A) (hg : Gl X x) (hm : X.mg x = some (.ref f)) (hk : PySem.W.keepIn X.K (.ref f) = true) (hb : Binds X.K fd ps []) (air : Air X W) (ha : DA X W (e :: es) t ut)
    (hdb : (x == ("__debug__" : Str)) = false := by decide) (he : starEach (e :: es) X.env = (false, eval e X.env) :: starEach es X.env := by rfl) (hpl : (backTo pos (starEach es X.env)).any (·.1) = false := by rfl) (hKK : X.K = KK := by rfl) :
    DE X W (.Call (.Name x p) (e :: es) [] pos) (tCallS (SpD KK n fn) (WE W) t) (uCall n fn ut) := by
  subst hKK
  exact de_call F hr hg hm hk hb air ha hdb he hpl
end
section
variable {X : Cx} {W : WX} {e : Expr} {es : List Expr} {t : TA} {ut : UA} {pos p : Pos} {k n : Nat} {f : Addr} {fd : FuncData} {ps : List Str} {fn : Fn} {x : Str} {kws : List Keyword} {ks : List Str} {tk : TA} {uk : UA} {π : List Nat} {m : Nat}
theorem de_callK0k {KK : Fr} (F : FnOk X.prog X.w X.K X.mg X.base (L2.CX X.prog X.w) k f fd ps (SpD X.K n fn)) (hr : Room k X.A) (hg : Gl X x) (hm : X.mg x = some (.ref f)) (hkp : PySem.W.keepIn X.K (.ref f) = true) (hb : KB X.K fd ps ks 0 π) (air : Air X W) (hk : DK X W kws tk uk)
    (hall : (backToKw pos (keywordEach kws X.env)).all (·.1.isSome) = true := by rfl) (hks : (backToKw pos (keywordEach kws X.env)).filterMap (·.1) = ks := by rfl) (hdb : (x == ("__debug__" : Str)) = false := by decide)
    (hpl : ((backTo pos (starEach [] X.env)).any (·.1) || (backToKw pos (keywordEach kws X.env)).any (·.1.isNone)) = false := by rfl) (hKK : X.K = KK := by rfl) :
    DE X W (.Call (.Name x p) [] kws pos) (tCallP (SpD KK n fn) π 0 ks.length (WE W) tNil tk) (uCallP n fn π 0 ks.length uNil uk) := by
  subst hKK
  exact de_callK0 F hr hg hm hkp hb air hk hall hks hdb hpl
end
section
variable {X : Cx} {W : WX} {e : Expr} {es : List Expr} {t : TA} {ut : UA} {pos p : Pos} {k n : Nat} {f : Addr} {fd : FuncData} {ps : List Str} {fn : Fn} {x : Str} {kws : List Keyword} {ks : List Str} {tk : TA} {uk : UA} {π : List Nat} {m : Nat}
theorem de_callKk {KK : Fr} (F : FnOk X.prog X.w X.K X.mg X.base (L2.CX X.prog X.w) k f fd ps (SpD X.K n fn)) (hr : Room k X.A) (hg : Gl X x) (hm : X.mg x = some (.ref f)) (hkp : PySem.W.keepIn X.K (.ref f) = true) (hb : KB X.K fd ps ks m π) (air : Air X W) (ha : DA X W (e :: es) t ut) (hk : DK X W kws tk uk)
    (hall : (backToKw pos (keywordEach kws X.env)).all (·.1.isSome) = true := by rfl) (hks : (backToKw pos (keywordEach kws X.env)).filterMap (·.1) = ks := by rfl) (hdb : (x == ("__debug__" : Str)) = false := by decide) (he : starEach (e :: es) X.env = (false, eval e X.env) :: starEach es X.env := by rfl)
    (hpl : ((backTo pos (starEach (e :: es) X.env)).any (·.1) || (backToKw pos (keywordEach kws X.env)).any (·.1.isNone)) = false := by rfl) (hKK : X.K = KK := by rfl) :
    DE X W (.Call (.Name x p) (e :: es) kws pos) (tCallP (SpD KK n fn) π m ks.length (WE W) t tk) (uCallP n fn π m ks.length ut uk) := by
  subst hKK
  exact de_callK F hr hg hm hkp hb air ha hk hall hks hdb he hpl
end
section
variable {X : Cx} {W : WX} {C dd a : Addr} {oe : Obj} {pn : List (Addr × Obj)} {i : Nat} {x nm : Str} {p p2 pos : Pos}
theorem de_isXk {KK : Fr} {D : Addr} {C' : Addr} {b : Bool} (c : ExcC X.K D) (hz : Zc (.ref D) (some dd) oe) (hf : ∃ vs, oe.data = .fields vs) (hN : X.N[i]? = some x) (hv : Vis X.env.scope x) (hg : Gl X "isinstance") (hm : X.mg "isinstance" = none) (hgn : Gl X nm) (hmn : X.mg nm = some (.ref C')) (hk : PySem.W.kitOne X.K (.ref D) (.ref C') = some b)
    (hd : (x == ("__debug__" : Str)) = false := by decide) (hcd : (x == ("__classdict__" : Str)) = false := by decide) (hdn : (nm == ("__debug__" : Str)) = false := by decide) (hb : bootBuiltins "isinstance" = some (.builtin "isinstance") := by first | rfl | kernel_rfl | decide +kernel)
    (he : starEach (Expr.Name x p :: [.Name nm p2]) X.env = (false, eval (.Name x p) X.env) :: starEach [.Name nm p2] X.env := by rfl) (he2 : starEach (.Name nm p2 :: []) X.env = (false, eval (.Name nm p2) X.env) :: starEach [] X.env := by rfl) (hpl : (backTo pos (starEach [.Name nm p2] X.env)).any (·.1) = false := by rfl) {p3 : Pos} (hKK : X.K = KK := by rfl) :
    DE (X.suite a ((a, oe) :: pn)) W (.Call (.Name "isinstance" p3) [.Name x p, .Name nm p2] [] pos) (tIsX KK D a dd i (.ref C')) (uIsX i a dd b) := by
  subst hKK
  exact de_isX c hz hf hN hv hg hm hgn hmn hk hd hcd hdn hb he he2 hpl
end
section
variable {X : Cx} {W : WX} {C dd a : Addr} {oe : Obj} {pn : List (Addr × Obj)} {i : Nat} {x nm : Str} {p p2 pos : Pos}
theorem de_isXbk {KK : Fr} {D : Addr} {b : Bool} {T : String} (c : ExcC X.K D) (hz : Zc (.ref D) (some dd) oe) (hf : ∃ vs, oe.data = .fields vs) (hN : X.N[i]? = some x) (hv : Vis X.env.scope x) (hg : Gl X "isinstance") (hm : X.mg "isinstance" = none) (hgn : Gl X nm) (hmn : X.mg nm = none) (hbn : bootBuiltins nm = some (.type T)) (hk : PySem.W.kitOne X.K (.ref D) (.type T) = some b)
    (hd : (x == ("__debug__" : Str)) = false := by decide) (hcd : (x == ("__classdict__" : Str)) = false := by decide) (hdn : (nm == ("__debug__" : Str)) = false := by decide) (hnn : nm ≠ "__name__" := by decide) (hb : bootBuiltins "isinstance" = some (.builtin "isinstance") := by first | rfl | kernel_rfl | decide +kernel)
    (he : starEach (Expr.Name x p :: [.Name nm p2]) X.env = (false, eval (.Name x p) X.env) :: starEach [.Name nm p2] X.env := by rfl) (he2 : starEach (.Name nm p2 :: []) X.env = (false, eval (.Name nm p2) X.env) :: starEach [] X.env := by rfl) (hpl : (backTo pos (starEach [.Name nm p2] X.env)).any (·.1) = false := by rfl) {p3 : Pos} (hKK : X.K = KK := by rfl) :
    DE (X.suite a ((a, oe) :: pn)) W (.Call (.Name "isinstance" p3) [.Name x p, .Name nm p2] [] pos) (tIsX KK D a dd i (.ty T)) (uIsX i a dd b) := by
  subst hKK
  exact de_isXb c hz hf hN hv hg hm hgn hmn hbn hk hd hcd hdn hnn hb he he2 hpl
end
section
variable {X : Cx} {W : WX} {e a b c : Expr} {ta tb tc te : TE} {ua ub uc ue : UE} {pos p p2 pos2 : Pos}
theorem de_tupRevk {KK : Fr} (h : DE X W e te ue) (hc : X.calm = true) (hg : Gl X "tuple") (hm : X.mg "tuple" = none) (hg2 : Gl X "reversed") (hm2 : X.mg "reversed" = none)
    (hs : starEach [e] X.env = (false, eval e X.env) :: starEach [] X.env := by rfl)
    (hs2 : starEach [.Call (.Name "reversed" p2) [e] [] pos2] X.env = (false, eval (.Call (.Name "reversed" p2) [e] [] pos2) X.env) :: starEach [] X.env := by rfl) (hKK : X.K = KK := by rfl) :
    DE X W (.Call (.Name "tuple" p) [.Call (.Name "reversed" p2) [e] [] pos2] [] pos) (RT.tTupRev KK te) (uTupRev ue) := by
  subst hKK
  exact de_tupRev h hc hg hm hg2 hm2 hs hs2
end
end Pl

namespace Pl
open PySem L2
/-! ### reading the terms, plain -/
theorem i_seq {u u' : US} {k : KS} {s : Sl} (h : ∀ N : Sl → Prop, (∀ s', N s' = u' k s') → u { k with nx := N } s) : uSeq u u' k s := h (u' k) fun _ => rfl
/-- what is left of k behind a cut -/
theorem i_cut {u u' : US} {k : KS} {s : Sl} (M : Sl → Prop) (h1 : ∀ s', M s' → u' k s') (h2 : ∀ N : Sl → Prop, (∀ s', M s' → N s') → u { k with nx := N } s) : uSeq u u' k s := h2 _ h1
theorem lt_line {n : Nat} (h : n ≤ 16777216) : n ≤ sizeLine := by rw [sizeLine_eq]; exact h
theorem lt_line' {n : Nat} (h : n < 16777216) : n < sizeLine := by rw [sizeLine_eq]; exact h
section
variable {l : List D} {ug : UG} {ut : UT} {ue : UE} {vs : List Nat} {s : Sl} {P : U → Prop}
/-- what is left behind the iterable of a comprehension -/
def lcIn (l : List D) (ug : UG) (ut : UT) (ue : UE) (vs : List Nat) (s : Sl) (P : U → Prop) : Prop := l.length ≤ sizeLine ∧ ∃ I : Nat → List D → Prop, I 0 [] ∧
  (∀ (i : Nat) (d : D) (acc : List D), l[i]? = some d → I i acc → ∃ ps, ug d = some ps ∧ (∀ p ∈ ps, p.1 ∈ vs) ∧
    ut (setU (wipeU s vs) ps) (fun b => if b = true then ue (setU (wipeU s vs) ps) (fun r => onD r fun y => I (i + 1) (acc ++ [y])) noX else I (i + 1) acc) noX) ∧ ∀ acc, acc.length ≤ l.length → I l.length acc → P (.own acc)
theorem i_lc {ui : UI} {PX : Ex → Prop} (h : ui s (fun l => lcIn l ug ut ue vs s P) PX) : uLc ui ug ut ue vs s P PX := h
theorem i_for {ui : UI} {ub : US} {k : KS} (h : ui (vw false s) (fun l => ∃ Pv : Nat → Sl → Prop, Pv 0 s ∧ (∀ (i : Nat) (d : D) (s' : Sl), l[i]? = some d → Pv i s' →
  ∃ ps, ug d = some ps ∧ ub { k with nx := Pv (i + 1), ct := Pv (i + 1), bk := k.nx } (setU s' ps)) ∧ ∀ s', Pv l.length s' → k.nx s') (fun x => k.ex x s)) : uFor ui ug ub k s := h
theorem flat_take {g : D → List D} {i : Nat} {d : D} (e : l[i]? = some d) : (l.take (i + 1)).flatMap g = (l.take i).flatMap g ++ g d := by
  have e' : l.take (i + 1) = l.take i ++ [d] := by
    rw [List.take_succ, e]; rfl
  rw [e', List.flatMap_append]
  simp
/-- each item gives g d -/
theorem lc_fun (g : D → List D) (hz : l.length ≤ sizeLine) (step : ∀ (i : Nat) (d : D), l[i]? = some d → ∃ ps, ug d = some ps ∧ (∀ p ∈ ps, p.1 ∈ vs) ∧ ∀ (acc : List D) (J : List D → Prop), J (acc ++ g d) →
    ut (setU (wipeU s vs) ps) (fun b => if b = true then ue (setU (wipeU s vs) ps) (fun r => onD r fun y => J (acc ++ [y])) noX else J acc) noX) (fin : P (.own (l.flatMap g))) : lcIn l ug ut ue vs s P := by
  refine ⟨hz, fun i acc => acc = (l.take i).flatMap g, by simp, fun i d acc e ea => ?_, fun acc _ ea => ?_⟩
  · obtain ⟨ps, h1, h2, h3⟩ := step i d e
    exact ⟨ps, h1, h2, h3 acc (fun acc => acc = (l.take (i + 1)).flatMap g) (by rw [flat_take e, ea])⟩
  · have ea' : acc = (l.take l.length).flatMap g := ea
    rw [List.take_length] at ea'; rw [ea']; exact fin
/-- each item gives one of R -/
theorem lc_rel (R : Nat → D → D → Prop) (hz : l.length ≤ sizeLine) (step : ∀ (i : Nat) (d : D), l[i]? = some d → ∃ ps, ug d = some ps ∧ (∀ p ∈ ps, p.1 ∈ vs) ∧ ∀ (acc : List D) (J : List D → Prop), (∀ y, R i d y → J (acc ++ [y])) →
    ut (setU (wipeU s vs) ps) (fun b => if b = true then ue (setU (wipeU s vs) ps) (fun r => onD r fun y => J (acc ++ [y])) noX else J acc) noX)
    (fin : ∀ acc : List D, acc.length = l.length → (∀ (i : Nat) (d y : D), l[i]? = some d → acc[i]? = some y → R i d y) → P (.own acc)) : lcIn l ug ut ue vs s P := by
  refine ⟨hz, fun i acc => i ≤ l.length → acc.length = i ∧ ∀ (j : Nat) (d y : D), l[j]? = some d → acc[j]? = some y → R j d y, fun _ => ⟨rfl, fun j d y _ z => by simp at z⟩, fun i d acc e ea => ?_, fun acc _ ea => ?_⟩
  · obtain ⟨ps, h1, h2, h3⟩ := step i d e
    have hi : i < l.length := (List.getElem?_eq_some_iff.mp e).1
    obtain ⟨a1, a2⟩ := ea (by omega)
    refine ⟨ps, h1, h2, h3 acc (fun acc => i + 1 ≤ l.length → acc.length = i + 1 ∧ ∀ (j : Nat) (d y : D), l[j]? = some d → acc[j]? = some y → R j d y) fun y hy _ => ⟨by simp [a1], fun j d' y' z1 z2 => ?_⟩⟩
    by_cases hj : j < i
    · rw [List.getElem?_append_left (by omega)] at z2
      exact a2 j d' y' z1 z2
    · have hj2 : j = i := by
        have := (List.getElem?_eq_some_iff.mp z2).1
        simp at this; omega
      subst hj2
      rw [e] at z1; cases z1
      rw [List.getElem?_append_right (by omega), a1] at z2
      simp at z2; subst z2; exact hy
  · obtain ⟨a1, a2⟩ := ea (Nat.le_refl _)
    exact fin acc a1 a2
end
theorem has_false {P : Program} {w : World} {K : Fr} {mg : Str → Option Value} {base : Heap} {k : Nat} {x : Str} {st : Stmt} {N ps : List Str} {fn : Fn} {fd : FuncData} {f : Addr} (F : Fun K x x st f fd) (S : FnScope N ps (defScope st)) (hz : ∀ as P PX, ¬ fn as P PX) :
    FnOk P w K mg base (L2.CX P w) (k + 1) f fd ps (SpD K ps.length fn) :=
  F.okX S (fun vs H Q E h => h.len) fun cdv A outer s H vs Q E hr hsp => by
    obtain ⟨_, _, _, _, _, _, _, _, z, _⟩ := hsp
    exact absurd z (hz _ _ _)
theorem atI_nat {α : Type} {l : List α} {i : Int} {n : Nat} {x : α} (hi : i = (n : Int)) (h : l[n]? = some x) : atI l i = some x := by
  subst hi
  have hn : n < l.length := (List.getElem?_eq_some_iff.mp h).1
  unfold atI ixN
  rw [if_pos (by omega), if_pos (by omega)]
  simpa using h
theorem ixN_nat {n : Nat} {i : Int} {j : Nat} (hi : i = (j : Int)) (h : j < n) : ixN n i = some j := by
  subst hi
  unfold ixN
  rw [if_pos (by omega), if_pos (by omega)]
  simp
theorem sh_int (i : Int) : SeqAt.shaped (.int i) = true := by simp [SeqAt.shaped, PyData.canLay0, PyData.depth]
theorem sh_bool (i : Bool) : SeqAt.shaped (.bool i) = true := by simp [SeqAt.shaped, PyData.canLay0, PyData.depth]
theorem sh_none : SeqAt.shaped .none = true := by simp [SeqAt.shaped, PyData.canLay0, PyData.depth]
theorem sh_str (i : Str) : SeqAt.shaped (.str i) = PyData.strOk i := by simp [SeqAt.shaped, PyData.canLay0, PyData.depth]
theorem ev_int (a b : Int) : PyData.eqv (.int a) (.int b) = (a == b) := rfl
theorem ev_bool (a b : Bool) : PyData.eqv (.bool a) (.bool b) = (a == b) := rfl
theorem ev_str (a b : Str) : PyData.eqv (.str a) (.str b) = (a == b) := rfl
theorem ev_none : PyData.eqv .none .none = true := rfl
theorem ev_ni (b : Int) : PyData.eqv .none (.int b) = false := rfl
theorem ev_in (b : Int) : PyData.eqv (.int b) .none = false := rfl
theorem bits_all {p : D → Bool} (l : List D) : (l.flatMap fun d => [PyData.bool (p d)]) = (l.map p).map PyData.bool := by
  induction l with
  | nil => rfl
  | cons a l ih => simp [ih]
theorem boolsD_map (bs : List Bool) : boolsD (bs.map PyData.bool) = some bs := by
  induction bs with
  | nil => rfl
  | cons b bs ih => show (boolsD (bs.map PyData.bool)).map _ = _; rw [ih]; rfl
theorem boolsD_comp {α : Type} (f : α → Bool) (l : List α) : boolsD (l.map (PyData.bool ∘ f)) = some (l.map f) := by
  rw [← List.map_map]; exact boolsD_map _
theorem intsD_map (bs : List Int) : intsD (bs.map PyData.int) = some bs := by
  induction bs with
  | nil => rfl
  | cons b bs ih => show (intsD (bs.map PyData.int)).map _ = _; rw [ih]; rfl
theorem intsD_comp {α : Type} (f : α → Int) (l : List α) : intsD (l.map (PyData.int ∘ f)) = some (l.map f) := by
  rw [← List.map_map]; exact intsD_map _
theorem isN_none : isN .none = true := rfl
theorem isN_int (i : Int) : isN (.int i) = false := rfl
theorem isN_bool (i : Bool) : isN (.bool i) = false := rfl
theorem isN_str (i : Str) : isN (.str i) = false := rfl
theorem isN_list (i : List D) : isN (.list i) = false := rfl
theorem isN_tup (i : List D) : isN (.tuple i) = false := rfl
theorem enD_range (m : List D) : enD m = (List.range m.length).map fun i => .tuple [.int (i : Nat), m[i]?.getD .none] := by
  refine List.ext_getElem? fun i => ?_
  unfold enD
  rw [List.getElem?_mapIdx, List.getElem?_map]
  by_cases h : i < m.length
  · rw [List.getElem?_range h, List.getElem?_eq_getElem h]
    simp [h]
  · rw [List.getElem?_eq_none (by omega), List.getElem?_eq_none (by simpa using h)]
    rfl
theorem flat_if {α β : Type} (p : α → Bool) (f : α → β) (l : List α) : (l.flatMap fun i => if p i = true then [f i] else []) = (l.filter p).map f := by
  induction l with
  | nil => rfl
  | cons a l ih =>
    rw [List.flatMap_cons, List.filter_cons, ih]
    by_cases h : p a = true
    · simp [h]
    · simp [h]
theorem all_get {p : D → Bool} {l : List D} {i : Nat} (h : l.all p = true) (hi : i < l.length) : p (l[i]?.getD .none) = true := by
  have := List.all_eq_true.mp h (l[i]) (List.getElem_mem hi)
  simpa [hi] using this
theorem flat_one {α β : Type} (f : α → β) (l : List α) : (l.flatMap fun i => [f i]) = l.map f := by
  induction l with
  | nil => rfl
  | cons a l ih => simp [ih]
theorem get_rng {n i : Nat} {r : Nat} (h : (List.range n)[i]? = some r) : r = i ∧ i < n := by
  have h1 := (List.getElem?_eq_some_iff.mp h)
  obtain ⟨h2, h3⟩ := h1
  simp at h2 h3
  exact ⟨h3.symm, h2⟩
theorem get_rngD {lo : Int} {n i : Nat} {d : D} (h : (rngD lo n)[i]? = some d) : d = .int (lo + (i : Nat)) ∧ i < n := by
  unfold rngD at h
  rw [List.getElem?_map] at h
  obtain ⟨r, h1, rfl⟩ := Option.map_eq_some_iff.mp h
  obtain ⟨rfl, h2⟩ := get_rng h1
  exact ⟨rfl, h2⟩
theorem rngD_flat {n : Nat} {β : Type} (g : D → List β) : (rngD 0 n).flatMap g = (List.range n).flatMap fun (i : Nat) => g (.int i) := by
  unfold rngD
  rw [List.flatMap_map]
  congr 1
  funext i
  simp
theorem nols_map {α : Type} (f : α → D) (h : ∀ a, nol (f a) = true) (l : List α) : nols (l.map f) = true := by
  induction l with
  | nil => rfl
  | cons a l ih => show (nol (f a) && nols (l.map f)) = true; rw [h, ih]; rfl
theorem nols_all {l : List D} (h : ∀ x ∈ l, nol x = true) : nols l = true := by
  induction l with
  | nil => rfl
  | cons a l ih => show (nol a && nols l) = true; rw [h a (.head _), ih fun x hx => h x (.tail _ hx)]; rfl
section
variable {α : Type} {a b c d e : α} {l : List α}
theorem at_0 : atI (a :: l) 0 = some a := atI_nat (n := 0) rfl rfl
theorem at_1 : atI (a :: b :: l) 1 = some b := atI_nat (n := 1) rfl rfl
theorem at_2 : atI (a :: b :: c :: l) 2 = some c := atI_nat (n := 2) rfl rfl
theorem at_3 : atI (a :: b :: c :: d :: l) 3 = some d := atI_nat (n := 3) rfl rfl
theorem at_4 : atI (a :: b :: c :: d :: e :: l) 4 = some e := atI_nat (n := 4) rfl rfl
end
theorem ix_40 : ixN 4 0 = some 0 := rfl
theorem ix_41 : ixN 4 1 = some 1 := rfl
theorem ix_42 : ixN 4 2 = some 2 := rfl
theorem ix_43 : ixN 4 3 = some 3 := rfl
theorem at_nn {α : Type} {l : List α} {i : Int} (h0 : 0 ≤ i) (h1 : i < l.length) : ∃ x, atI l i = some x ∧ l[i.toNat]? = some x := by
  have hn : i.toNat < l.length := by omega
  exact ⟨l[i.toNat], atI_nat (n := i.toNat) (by omega) (List.getElem?_eq_getElem hn), List.getElem?_eq_getElem hn⟩
theorem mulR {i j : Int} (h : -(2 ^ 64) < j ∧ j < 2 ^ 64) : CMulA i j := .inl (.inr h)
theorem mulL {i j : Int} (h : -(2 ^ 64) < i ∧ i < 2 ^ 64) : CMulA i j := .inl (.inl h)
theorem divS {i j : Int} (h0 : 0 < j) (h : j < 2 ^ 64) : CDivW i j := ⟨h0, by
  have : j.natAbs < 2 ^ 64 := by omega
  have h2 : j.natAbs ≠ 0 := by omega
  have := (Nat.log2_lt h2).mpr this
  omega⟩
theorem powS {i j : Int} (h0 : 0 ≤ j) (h1 : j ≤ 1000000) (h2 : i.natAbs < 2 ^ 64) : CPow i j := ⟨h0, h1, h2⟩
/-- a slot of which only this is known: it holds data, or nothing -/
def jk (o : Option D) : Option U := o.map U.d
theorem vw_jk (m : Bool) (o : Option D) : vw1 m (jk o) = jk o := by cases o <;> cases m <;> rfl
theorem jk_none : none = jk none := rfl
theorem jk_some (d : D) : some (U.d d) = jk (some d) := rfl
end Pl

namespace K40
open PySem L2 Pl
def top (i : Nat) : Stmt := PySem.Challenge.pw_wheelwritten_k40_whole_agreements_and_th.main.body.getD i (.Pass ⟨0, 0, 0, 0⟩)
abbrev s_is_integer : Stmt := top 5
abbrev s_is_number : Stmt := top 6
abbrev s_need_both : Stmt := top 8
abbrev s_agreements : Stmt := top 9
abbrev s_matches : Stmt := top 10
abbrev s_throws_of : Stmt := top 12
abbrev s__law_a_hold : Stmt := top 14
abbrev s__law_take : Stmt := top 15
abbrev s__law_same : Stmt := top 16
abbrev s__law_a_symbols : Stmt := top 17
abbrev s__law_a_row : Stmt := top 18
abbrev s__law_a_wished : Stmt := top 19
abbrev s__law_a_counts : Stmt := top 20
abbrev s__law_turned : Stmt := top 21
abbrev s__law_matches_right : Stmt := top 22
abbrev s__law_listed : Stmt := top 23
abbrev s__law_joined : Stmt := top 24
abbrev s__law_halved : Stmt := top 25
abbrev s__law_throws_right : Stmt := top 26
abbrev s__law_heard : Stmt := top 27
abbrev s__law_a_odds : Stmt := top 28
abbrev s__law_odd_rows : Stmt := top 29
abbrev s__law_odd_throws : Stmt := top 30
abbrev s_law : Stmt := top 31
/-- what the written part says -/
structure Tk (P : Program) (K : Fr) (mg : Str → Option Value) : Prop where
  n_ValueError : mg "ValueError" = none
  n_range : mg "range" = none
  n_tuple : mg "tuple" = none
  n_len : mg "len" = none
  n_isinstance : mg "isinstance" = none
  n_int : mg "int" = none
  n_all : mg "all" = none
  n_list : mg "list" = none
  n_bool : mg "bool" = none
  n_enumerate : mg "enumerate" = none
  n_str : mg "str" = none
  n_super : mg "super" = none
  n_reversed : mg "reversed" = none
  g_is_integer : mg "is_integer" = some (.ref (He.ga K "is_integer"))
  f_is_integer : ∃ fd, Fun K "is_integer" "is_integer" s_is_integer (He.ga K "is_integer") fd
  g_is_number : mg "is_number" = some (.ref (He.ga K "is_number"))
  f_is_number : ∃ fd, Fun K "is_number" "is_number" s_is_number (He.ga K "is_number") fd
  g_need_both : mg "need_both" = some (.ref (He.ga K "need_both"))
  f_need_both : ∃ fd, Fun K "need_both" "need_both" s_need_both (He.ga K "need_both") fd
  g_agreements : mg "agreements" = some (.ref (He.ga K "agreements"))
  f_agreements : ∃ fd, Fun K "agreements" "agreements" s_agreements (He.ga K "agreements") fd
  g_matches : mg "matches" = some (.ref (He.ga K "matches"))
  f_matches : ∃ fd, Fun K "matches" "matches" s_matches (He.ga K "matches") fd
  g_throws_of : mg "throws_of" = some (.ref (He.ga K "throws_of"))
  f_throws_of : ∃ fd, Fun K "throws_of" "throws_of" s_throws_of (He.ga K "throws_of") fd
  g__law_a_hold : mg "_law_a_hold" = some (.ref (He.ga K "_law_a_hold"))
  f__law_a_hold : ∃ fd, Fun K "_law_a_hold" "_law_a_hold" s__law_a_hold (He.ga K "_law_a_hold") fd
  g__law_take : mg "_law_take" = some (.ref (He.ga K "_law_take"))
  f__law_take : ∃ fd, Fun K "_law_take" "_law_take" s__law_take (He.ga K "_law_take") fd
  g__law_same : mg "_law_same" = some (.ref (He.ga K "_law_same"))
  f__law_same : ∃ fd, Fun K "_law_same" "_law_same" s__law_same (He.ga K "_law_same") fd
  g__law_a_symbols : mg "_law_a_symbols" = some (.ref (He.ga K "_law_a_symbols"))
  f__law_a_symbols : ∃ fd, Fun K "_law_a_symbols" "_law_a_symbols" s__law_a_symbols (He.ga K "_law_a_symbols") fd
  g__law_a_row : mg "_law_a_row" = some (.ref (He.ga K "_law_a_row"))
  f__law_a_row : ∃ fd, Fun K "_law_a_row" "_law_a_row" s__law_a_row (He.ga K "_law_a_row") fd
  g__law_a_wished : mg "_law_a_wished" = some (.ref (He.ga K "_law_a_wished"))
  f__law_a_wished : ∃ fd, Fun K "_law_a_wished" "_law_a_wished" s__law_a_wished (He.ga K "_law_a_wished") fd
  g__law_a_counts : mg "_law_a_counts" = some (.ref (He.ga K "_law_a_counts"))
  f__law_a_counts : ∃ fd, Fun K "_law_a_counts" "_law_a_counts" s__law_a_counts (He.ga K "_law_a_counts") fd
  g__law_turned : mg "_law_turned" = some (.ref (He.ga K "_law_turned"))
  f__law_turned : ∃ fd, Fun K "_law_turned" "_law_turned" s__law_turned (He.ga K "_law_turned") fd
  g__law_matches_right : mg "_law_matches_right" = some (.ref (He.ga K "_law_matches_right"))
  f__law_matches_right : ∃ fd, Fun K "_law_matches_right" "_law_matches_right" s__law_matches_right (He.ga K "_law_matches_right") fd
  g__law_listed : mg "_law_listed" = some (.ref (He.ga K "_law_listed"))
  f__law_listed : ∃ fd, Fun K "_law_listed" "_law_listed" s__law_listed (He.ga K "_law_listed") fd
  g__law_joined : mg "_law_joined" = some (.ref (He.ga K "_law_joined"))
  f__law_joined : ∃ fd, Fun K "_law_joined" "_law_joined" s__law_joined (He.ga K "_law_joined") fd
  g__law_halved : mg "_law_halved" = some (.ref (He.ga K "_law_halved"))
  f__law_halved : ∃ fd, Fun K "_law_halved" "_law_halved" s__law_halved (He.ga K "_law_halved") fd
  g__law_throws_right : mg "_law_throws_right" = some (.ref (He.ga K "_law_throws_right"))
  f__law_throws_right : ∃ fd, Fun K "_law_throws_right" "_law_throws_right" s__law_throws_right (He.ga K "_law_throws_right") fd
  g__law_heard : mg "_law_heard" = some (.ref (He.ga K "_law_heard"))
  f__law_heard : ∃ fd, Fun K "_law_heard" "_law_heard" s__law_heard (He.ga K "_law_heard") fd
  g__law_a_odds : mg "_law_a_odds" = some (.ref (He.ga K "_law_a_odds"))
  f__law_a_odds : ∃ fd, Fun K "_law_a_odds" "_law_a_odds" s__law_a_odds (He.ga K "_law_a_odds") fd
  g__law_odd_rows : mg "_law_odd_rows" = some (.ref (He.ga K "_law_odd_rows"))
  f__law_odd_rows : ∃ fd, Fun K "_law_odd_rows" "_law_odd_rows" s__law_odd_rows (He.ga K "_law_odd_rows") fd
  g__law_odd_throws : mg "_law_odd_throws" = some (.ref (He.ga K "_law_odd_throws"))
  f__law_odd_throws : ∃ fd, Fun K "_law_odd_throws" "_law_odd_throws" s__law_odd_throws (He.ga K "_law_odd_throws") fd
  g_law : mg "law" = some (.ref (He.ga K "law"))
  f_law : ∃ fd, Fun K "law" "law" s_law (He.ga K "law") fd
  g_WheelError : mg "WheelError" = some (.ref (He.ga K "WheelError"))
  g_BoardError : mg "BoardError" = some (.ref (He.ga K "BoardError"))
  g_NotUsable : mg "NotUsable" = some (.ref (He.ga K "NotUsable"))
  x_NotUsable : PySem.XSup.Txt P K (He.ga K "NotUsable") (He.ma K (He.ga K "NotUsable") "__init__") "NotUsable"
  xf : XfC K (He.ga K "NotUsable")
  ec : ExcC K (He.ga K "NotUsable")
  i1 : PySem.W.kitOne K (.ref (He.ga K "NotUsable")) (.ref (He.ga K "NotUsable")) = some true
  i2 : PySem.W.kitOne K (.ref (He.ga K "NotUsable")) (.ref (He.ga K "BoardError")) = some true
  em : PySem.W.exmOne K (.ref (He.ga K "NotUsable")) (.ref (He.ga K "WheelError")) = some true
theorem kb_agreements_0 {K : Fr} {fd : FuncData} (F : Fun K "agreements" "agreements" s_agreements (He.ga K "agreements") fd) : KB K fd ["wheel", "one", "pattern"] ["pattern", "one", "wheel"] 0 [2, 1, 0] := by
  obtain ⟨oc, od, kV, doc, pm, an, cdv, ct, osl, rfl, lk, hcd⟩ := F.ex
  exact ⟨fun s us ws _ h1 h2 => match us, ws, h1, h2 with | [], [_, _, _], _, _ => .of_eq (by first | rfl | with_unfolding_all rfl)⟩
theorem kb_matches_0 {K : Fr} {fd : FuncData} (F : Fun K "matches" "matches" s_matches (He.ga K "matches") fd) : KB K fd ["wheel", "one", "pattern"] ["one", "wheel", "pattern"] 0 [1, 0, 2] := by
  obtain ⟨oc, od, kV, doc, pm, an, cdv, ct, osl, rfl, lk, hcd⟩ := F.ex
  exact ⟨fun s us ws _ h1 h2 => match us, ws, h1, h2 with | [], [_, _, _], _, _ => .of_eq (by first | rfl | with_unfolding_all rfl)⟩
theorem kb_throws_of_0 {K : Fr} {fd : FuncData} (F : Fun K "throws_of" "throws_of" s_throws_of (He.ga K "throws_of") fd) : KB K fd ["wheel", "faces", "times"] ["times", "faces", "wheel"] 0 [2, 1, 0] := by
  obtain ⟨oc, od, kV, doc, pm, an, cdv, ct, osl, rfl, lk, hcd⟩ := F.ex
  exact ⟨fun s us ws _ h1 h2 => match us, ws, h1, h2 with | [], [_, _, _], _, _ => .of_eq (by first | rfl | with_unfolding_all rfl)⟩
variable {P : Program} {w : World} {K : Fr} {mg : Str → Option Value} {base : Heap}
def csT (K : Fr) (C : Addr) : Prop := C = He.ga K "NotUsable"
/-- the cell of draws -/
def HVk (l : List D) : Prop := ∃ (w s i : Int) (c : List Int), l = [.int w, .int s, .int i, .list (c.map .int)] ∧ 0 ≤ w ∧ 0 ≤ s ∧ 0 ≤ i
/-! ### sums over lists, whole numbers -/
def sm {α : Type} (l : List α) (f : α → Int) : Int := (l.map f).sum
theorem sm_nil {α : Type} (f : α → Int) : sm [] f = 0 := rfl
theorem sm_cons {α : Type} (a : α) (l : List α) (f : α → Int) : sm (a :: l) f = f a + sm l f := by unfold sm; simp
theorem sm_app {α : Type} (l m : List α) (f : α → Int) : sm (l ++ m) f = sm l f + sm m f := by unfold sm; simp
theorem sm_map {α β : Type} (g : α → β) (l : List α) (f : β → Int) : sm (l.map g) f = sm l fun a => f (g a) := by unfold sm; rw [List.map_map]; rfl
theorem sm_flat {α β : Type} (g : α → List β) (l : List α) (f : β → Int) : sm (l.flatMap g) f = sm l fun a => sm (g a) f := by
  induction l with
  | nil => rfl
  | cons a l ih => rw [List.flatMap_cons, sm_app, sm_cons, ih]
theorem sm_add {α : Type} (l : List α) (f g : α → Int) : sm l (fun a => f a + g a) = sm l f + sm l g := by
  induction l with
  | nil => rfl
  | cons a l ih => rw [sm_cons, sm_cons, sm_cons, ih]; omega
theorem sm_mul {α : Type} (c : Int) (l : List α) (f : α → Int) : sm l (fun a => c * f a) = c * sm l f := by
  induction l with
  | nil => simp [sm_nil]
  | cons a l ih => rw [sm_cons, sm_cons, ih, Int.mul_add]
theorem sm_zero {α : Type} (l : List α) : sm l (fun _ => 0) = 0 := by
  induction l with
  | nil => rfl
  | cons a l ih => rw [sm_cons, ih]; rfl
theorem sm_swap {α β : Type} (l : List α) (m : List β) (f : α → β → Int) : sm l (fun a => sm m (f a)) = sm m fun b => sm l fun a => f a b := by
  induction l with
  | nil => simp [sm_nil, sm_zero]
  | cons a l ih =>
    rw [sm_cons, ih]
    simp only [sm_cons]
    rw [sm_add]
theorem sm_congr {α : Type} {l : List α} {f g : α → Int} (h : ∀ a ∈ l, f a = g a) : sm l f = sm l g := by
  unfold sm
  rw [List.map_congr_left h]
theorem sm_perm {α : Type} {l m : List α} (h : l.Perm m) (f : α → Int) : sm l f = sm m f := by
  induction h with
  | nil => rfl
  | cons a _ ih => rw [sm_cons, sm_cons, ih]
  | swap a b l => rw [sm_cons, sm_cons, sm_cons, sm_cons]; omega
  | trans _ _ ih1 ih2 => rw [ih1, ih2]
theorem sm_range_succ (n : Nat) (f : Nat → Int) : sm (List.range (n + 1)) f = sm (List.range n) f + f n := by
  rw [List.range_succ, sm_app, sm_cons, sm_nil]; omega
/-- one place of a range -/
theorem sm_one {n i : Nat} (h : i < n) (f : Nat → Int) : sm (List.range n) (fun a => if a = i then f a else 0) = f i := by
  induction n with
  | zero => omega
  | succ n ih =>
    rw [sm_range_succ]
    by_cases c : i = n
    · subst c
      rw [if_pos rfl, sm_congr (g := fun _ => 0) (fun a ha => if_neg (by have := List.mem_range.mp ha; omega)), sm_zero]; omega
    · rw [ih (by omega), if_neg (by omega)]; omega
def ind (p : Prop) [Decidable p] : Int := if p then 1 else 0
/-- how often each rest stands in l -/
def hs (n : Nat) (l : List Nat) (j : Nat) : Int := sm l fun x => ind (x % n = j)
theorem fib {n : Nat} (h0 : 0 < n) (l : List Nat) (g : Nat → Int) : sm l (fun x => g (x % n)) = sm (List.range n) fun a => hs n l a * g a := by
  induction l with
  | nil =>
    rw [sm_nil, sm_congr (g := fun _ => 0) (fun a _ => by show sm [] _ * g a = 0; rw [sm_nil, Int.zero_mul]), sm_zero]
  | cons x l ih =>
    rw [sm_cons, ih]
    have e : sm (List.range n) (fun a => hs n (x :: l) a * g a) = sm (List.range n) (fun a => (if a = x % n then g a else 0) + hs n l a * g a) := sm_congr fun a _ => by
      show sm (x :: l) _ * g a = _
      rw [sm_cons, Int.add_mul]
      congr 1
      unfold ind
      by_cases c : x % n = a
      · rw [if_pos c, if_pos c.symm, Int.one_mul]
      · rw [if_neg c, if_neg (fun z => c z.symm), Int.zero_mul]
    rw [e, sm_add, sm_one (Nat.mod_lt _ h0)]
/-! ### all sums of an item here and an item there -/
def pls (a b : List Nat) : List Nat := a.flatMap fun x => b.map (x + ·)
def pw (fs : List Nat) : Nat → List Nat
  | 0 => [0]
  | t + 1 => pls (pw fs t) fs
theorem pls_zero (a : List Nat) : pls a [0] = a := by
  unfold pls
  induction a with
  | nil => rfl
  | cons x a ih => rw [List.flatMap_cons, ih]; simp
theorem pls_assoc (a b c : List Nat) : pls (pls a b) c = pls a (pls b c) := by
  unfold pls
  rw [List.flatMap_assoc]
  congr 1
  funext x
  rw [List.flatMap_map, List.map_flatMap]
  congr 1
  funext y
  rw [List.map_map]
  congr 1
  funext z
  simp only [Function.comp]
  omega
theorem pw_add (fs : List Nat) (a : Nat) : ∀ b, pw fs (a + b) = pls (pw fs a) (pw fs b)
  | 0 => (pls_zero _).symm
  | b + 1 => by
    show pls (pw fs (a + b)) fs = pls (pw fs a) (pls (pw fs b) fs)
    rw [pw_add fs a b, pls_assoc]
theorem pls_perm {a a' b b' : List Nat} (h : a.Perm a') (g : b.Perm b') : (pls a b).Perm (pls a' b') := by
  unfold pls
  refine (List.Perm.flatMap_right _ h).trans ?_
  clear h
  induction a' with
  | nil => exact .nil
  | cons x l ih =>
    rw [List.flatMap_cons, List.flatMap_cons]
    exact (g.map _).append ih
theorem pw_perm {fs gs : List Nat} (h : fs.Perm gs) : ∀ t, (pw fs t).Perm (pw gs t)
  | 0 => .refl _
  | t + 1 => pls_perm (pw_perm h t) h
theorem hs_perm {n : Nat} {l m : List Nat} (h : l.Perm m) (j : Nat) : hs n l j = hs n m j := sm_perm h _
/-- a product of tables -/
theorem hs_pls {n : Nat} (h0 : 0 < n) (a b : List Nat) (j : Nat) : hs n (pls a b) j = sm (List.range n) fun x => hs n a x * sm (List.range n) fun y => hs n b y * ind ((x + y) % n = j) := by
  unfold pls
  show sm (a.flatMap _) _ = _
  rw [sm_flat]
  have e : sm a (fun x => sm (b.map (x + ·)) fun z => ind (z % n = j)) = sm a fun x => (fun r => sm (List.range n) fun y => hs n b y * ind ((r + y) % n = j)) (x % n) := sm_congr fun x _ => by
    rw [sm_map]
    have e2 : sm b (fun y => ind ((x + y) % n = j)) = sm b fun y => (fun r => ind ((x % n + r) % n = j)) (y % n) := sm_congr fun y _ => by
      show ind _ = ind _
      rw [← Nat.add_mod]
    exact e2.trans (fib h0 b fun r => ind ((x % n + r) % n = j))
  exact e.trans (fib h0 a fun r => sm (List.range n) fun y => hs n b y * ind ((r + y) % n = j))
/-- one more throw -/
theorem hs_throw {n : Nat} (h0 : 0 < n) (a fs : List Nat) (j : Nat) : hs n (pls a fs) j = sm fs fun f => sm (List.range n) fun p => hs n a p * ind ((p + f) % n = j) := by
  unfold pls
  show sm (a.flatMap _) _ = _
  rw [sm_flat]
  have e : sm a (fun x => sm (fs.map (x + ·)) fun z => ind (z % n = j)) = sm a fun x => sm fs fun f => ind ((x + f) % n = j) := sm_congr fun x _ => sm_map _ _ _
  rw [e, sm_swap]
  refine sm_congr fun f _ => ?_
  have e2 : sm a (fun x => ind ((x + f) % n = j)) = sm a fun x => (fun r => ind ((r + f) % n = j)) (x % n) := sm_congr fun x _ => by
    show ind _ = ind _
    rw [Nat.mod_add_mod]
  exact e2.trans (fib h0 a fun r => ind ((r + f) % n = j))
def tab (n : Nat) (g : Nat → Int) : List D := (List.range n).map fun j => .int (g j)
theorem tab_len (n : Nat) (g : Nat → Int) : (tab n g).length = n := by unfold tab; simp
theorem tab_get {n i : Nat} {g : Nat → Int} (h : i < n) : (tab n g)[i]? = some (.int (g i)) := by unfold tab; rw [List.getElem?_map, List.getElem?_range h]; rfl
theorem tab_congr {n : Nat} {f g : Nat → Int} (h : ∀ j, j < n → f j = g j) : tab n f = tab n g := by
  unfold tab
  exact List.map_congr_left fun j hj => by rw [h j (List.mem_range.mp hj)]
theorem tab_set {n i : Nat} {g : Nat → Int} {v : Int} (h : i < n) : (tab n g).set i (.int v) = tab n fun j => if j = i then v else g j := by
  refine List.ext_getElem? fun j => ?_
  rw [List.getElem?_set]
  by_cases c : i = j
  · subst c
    rw [if_pos rfl, tab_len, if_pos h, tab_get h, if_pos rfl]
  · rw [if_neg c]
    by_cases hj : j < n
    · rw [tab_get hj, tab_get hj, if_neg (fun z => c z.symm)]
    · rw [List.getElem?_eq_none (by rw [tab_len]; omega), List.getElem?_eq_none (by rw [tab_len]; omega)]
theorem tab_atI {n : Nat} {i : Int} {k : Nat} {g : Nat → Int} (e : i = (k : Int)) (h : k < n) : atI (tab n g) i = some (.int (g k)) := atI_nat e (tab_get h)
theorem sc_is_integer : FnScope ["thing"] ["thing"] (defScope s_is_integer) := ⟨rfl, rfl, rfl, by decide +kernel, rfl, by decide +kernel, by decide +kernel⟩
def isI : D → Bool
  | .int _ => true
  | _ => false
def fn_is_integer : Fn := fun as P _ => ∃ x, as = [.d x] ∧ P (.d (.bool (isI x)))
theorem has_is_integer (T : Tk P K mg) : ∃ fd, Has P w K mg base 1 "is_integer" s_is_integer ["thing"] fn_is_integer fd := by
  obtain ⟨fd, F⟩ := T.f_is_integer
  have hb := F.binds (ps := ["thing"]) fun _ _ _ _ _ _ us hl => match us, hl with | [_], _ => rfl
  refine ⟨fd, T.g_is_integer, F.kp, F, hb, fnD F sc_is_integer (by decide) fun cdv A outer s H E hr => ⟨_, _, (dss_one (ds_ret false (de_andk (KK := K) (de_isk (KK := K) .int (dv 0) rfl T.n_isinstance bt_isi rfl T.n_int bt_int) (de_one (de_notk (KK := K) (de_isk (KK := K) .bool (dv 0) rfl T.n_isinstance bt_isi rfl T.n_bool bt_bool)))))), ?_⟩⟩
  rintro as Q PX hl ⟨x, rfl, h⟩
  cases x <;> simp [vw_jk, at_0, at_1, at_2, at_3, at_4, ix_40, ix_41, ix_42, ix_43, boolsD_comp, intsD_comp, sh_int, sh_bool, sh_none, sh_str, ev_int, ev_bool, ev_str, ev_none, ev_ni, ev_in, uIfS, evT, ev, uRet, uRetO, uRetN, uDrop, uSet, uSetO, uMove, uFrz, uNext, uBreak, uCont, uApp, uIns, uPut, uPutA, uAug, uRaise, uVar, uC, uOp, uUn, uTru, uTst, uNot, uAnd, uOr, uAndV, uOrV, uNotV, uIf, uNil, uCons, argU, uTup, uLst, allD, onDs, onD, onT, onBool, oI, oIC, oAdd, oEq, oIsN, isN_none, isN_int, isN_bool, isN_str, isN_list, isN_tup, truD, oIx, uSl, uPart, uNoP, oSl, uCB, oLen, oList, oTuple, oInt, oAbs, oAll, oAny, oSum, onB, onI, uIs, uIs2, isT, uCall, uCallP, pick, vw, vw1, okU, okX, nolU, nol, nols, startU, kOf, kQ, kT, onL, uSeqI, uRng1, uRng2, rOk, uEnum, uRep, uTupRev, uYes, ugN, ugT2, wipeU, setU, uIfQ, uRetQ, uSetQ, uPutQ, ixC, szD, List.map_cons, List.map_nil, List.length_cons, List.length_nil, List.replicate, List.cons_append, List.nil_append, List.getElem?_cons_zero, List.getElem?_cons_succ, List.set_cons_zero, List.set_cons_succ, Option.map_some, Option.map_none, List.getD, Option.getD_some, if_true, true_and, and_true, Nat.reduceAdd, Nat.reduceSub, reduceIte, Bool.false_eq_true, Bool.not_true, Bool.not_false] <;> exact h
theorem sc_is_number : FnScope ["thing"] ["thing"] (defScope s_is_number) := ⟨rfl, rfl, rfl, by decide +kernel, rfl, by decide +kernel, by decide +kernel⟩
def isNb : D → Bool
  | .int i => decide (0 ≤ i)
  | _ => false
def fn_is_number : Fn := fun as P _ => ∃ x, as = [.d x] ∧ P (.d (.bool (isNb x)))
theorem has_is_number (T : Tk P K mg) {fd_is_integer : FuncData} (h_is_integer : Has P w K mg base 1 "is_integer" s_is_integer ["thing"] fn_is_integer fd_is_integer) : ∃ fd, Has P w K mg base 2 "is_number" s_is_number ["thing"] fn_is_number fd := by
  obtain ⟨fd, F⟩ := T.f_is_number
  have hb := F.binds (ps := ["thing"]) fun _ _ _ _ _ _ us hl => match us, hl with | [_], _ => rfl
  refine ⟨fd, T.g_is_number, F.kp, F, hb, fnD F sc_is_number (by decide) fun cdv A outer s H E hr => ⟨_, _, (dss_one (ds_ret false (de_andk (KK := K) (de_own h_is_integer ⟨rfl, rfl, rfl, rfl, rfl⟩ (hr.mono (by decide)) rfl airD (da_cons (dv 0) da_nil)) (de_one (de_cmp do_ge (dv 0) de_int))))), ?_⟩⟩
  rintro as Q PX hl ⟨x, rfl, h⟩
  cases x <;> simp [vw_jk, at_0, at_1, at_2, at_3, at_4, ix_40, ix_41, ix_42, ix_43, boolsD_comp, intsD_comp, sh_int, sh_bool, sh_none, sh_str, ev_int, ev_bool, ev_str, ev_none, ev_ni, ev_in, uIfS, evT, ev, uRet, uRetO, uRetN, uDrop, uSet, uSetO, uMove, uFrz, uNext, uBreak, uCont, uApp, uIns, uPut, uPutA, uAug, uRaise, uVar, uC, uOp, uUn, uTru, uTst, uNot, uAnd, uOr, uAndV, uOrV, uNotV, uIf, uNil, uCons, argU, uTup, uLst, allD, onDs, onD, onT, onBool, oI, oIC, oAdd, oEq, oIsN, isN_none, isN_int, isN_bool, isN_str, isN_list, isN_tup, truD, oIx, uSl, uPart, uNoP, oSl, uCB, oLen, oList, oTuple, oInt, oAbs, oAll, oAny, oSum, onB, onI, uIs, uIs2, isT, uCall, uCallP, pick, vw, vw1, okU, okX, nolU, nol, nols, startU, kOf, kQ, kT, onL, uSeqI, uRng1, uRng2, rOk, uEnum, uRep, uTupRev, uYes, ugN, ugT2, wipeU, setU, uIfQ, uRetQ, uSetQ, uPutQ, ixC, szD, List.map_cons, List.map_nil, List.length_cons, List.length_nil, List.replicate, List.cons_append, List.nil_append, List.getElem?_cons_zero, List.getElem?_cons_succ, List.set_cons_zero, List.set_cons_succ, Option.map_some, Option.map_none, List.getD, Option.getD_some, if_true, true_and, and_true, Nat.reduceAdd, Nat.reduceSub, reduceIte, Bool.false_eq_true, Bool.not_true, Bool.not_false, fn_is_integer, isI] <;> exact h
theorem sc_need_both : FnScope ["wheel", "one", "pattern", "value"] ["wheel", "one", "pattern"] (defScope s_need_both) := ⟨rfl, rfl, rfl, by decide +kernel, rfl, by decide +kernel, by decide +kernel⟩
/-- None | an int -/
def okN : D → Bool
  | .none => true
  | x => isI x
def allI (l : List D) : Bool := l.all isI
def allN (l : List D) : Bool := l.all okN
def goodOne (w : Int) (x : D) : Prop := ∃ l, x = .tuple l ∧ (l.length : Int) = w ∧ allI l = true
def goodPat (w : Int) (x : D) : Prop := ∃ l, x = .tuple l ∧ (l.length : Int) = w ∧ allN l = true
/-- a bound for what is handed in -/
def sml (x : D) : Prop := match x with
  | .tuple l => l.length ≤ 16777216
  | _ => True
def refused (K : Fr) (nm : Str) : Ex := ⟨He.ga K "NotUsable", [(("at" : Str), .int (-1)), (("word" : Str), .str nm)]⟩
def fn_need_both (K : Fr) : Fn := fun as P PX => ∃ w x y, as = [.d (.int w), .d x, .d y] ∧ sml x ∧ sml y ∧
  ((¬ goodOne w x → PX (refused K "one")) ∧ (goodOne w x → ¬ goodPat w y → PX (refused K "pattern")) ∧ (goodOne w x → goodPat w y → P (.d .none)))
theorem has_need_both (T : Tk P K mg) {fd_is_integer : FuncData} (h_is_integer : Has P w K mg base 1 "is_integer" s_is_integer ["thing"] fn_is_integer fd_is_integer) : ∃ fd, Has P w K mg base 3 "need_both" s_need_both ["wheel", "one", "pattern"] (fn_need_both K) fd := by
  obtain ⟨fd, F⟩ := T.f_need_both
  have hb := F.binds (ps := ["wheel", "one", "pattern"]) fun _ _ _ _ _ _ us hl => match us, hl with | [_, _, _], _ => rfl
  refine ⟨fd, T.g_need_both, F.kp, F, hb, fnD F sc_need_both (by decide) fun cdv A outer s H E hr => ⟨_, _, (dss_cons (ds_if false (DW.dt (dw_or (dt_not (dt_truk (KK := K) (de_isk (KK := K) .tup (dv 1) rfl T.n_isinstance bt_isi rfl T.n_tuple bt_tuple))) (dw_or1 (dt_cmp (do_nek (KK := K) hr.units) (de_callB (dc_lenk (KK := K)) rfl T.n_len bt_len (da_cons (dv 1) da_nil)) (dv 0))))) (dss_one (ds_raise rfl T.x_NotUsable T.g_NotUsable T.n_super (k := 0) (hr.mono (by decide)) tkD (da_cons de_str (da_cons (de_un du_neg de_int) da_nil)) rfl)) dss_nil)
    (dss_cons (ds_if false (dt_not (dt_truk (KK := K) (de_callB (dc_allk (KK := K) rfl) rfl T.n_all bt_all (da_cons (de_lc rfl sc_need_both.nd (own := [("value", 3)]) (di_seqk (KK := K) (dv 1)) (blk_of (by kernel_rfl)) (fun _ _ _ _ _ => (dg_name 3 sc_need_both.nd)) (fun _ _ _ _ _ => dts_nil) (fun _ _ _ _ _ => (de_own h_is_integer ⟨rfl, rfl, rfl, rfl, rfl⟩ (hr.mono (by decide)) rfl air0 (da_cons (dv 3) da_nil)))) da_nil)))) (dss_one (ds_raise rfl T.x_NotUsable T.g_NotUsable T.n_super (k := 0) (hr.mono (by decide)) tkD (da_cons de_str (da_cons (de_un du_neg de_int) da_nil)) rfl)) dss_nil)
    (dss_cons (ds_if false (DW.dt (dw_or (dt_not (dt_truk (KK := K) (de_isk (KK := K) .tup (dv 2) rfl T.n_isinstance bt_isi rfl T.n_tuple bt_tuple))) (dw_or1 (dt_cmp (do_nek (KK := K) hr.units) (de_callB (dc_lenk (KK := K)) rfl T.n_len bt_len (da_cons (dv 2) da_nil)) (dv 0))))) (dss_one (ds_raise rfl T.x_NotUsable T.g_NotUsable T.n_super (k := 0) (hr.mono (by decide)) tkD (da_cons de_str (da_cons (de_un du_neg de_int) da_nil)) rfl)) dss_nil)
    (dss_one (ds_if false (dt_not (dt_truk (KK := K) (de_callB (dc_allk (KK := K) rfl) rfl T.n_all bt_all (da_cons (de_lc rfl sc_need_both.nd (own := [("value", 3)]) (di_seqk (KK := K) (dv 2)) (blk_of (by kernel_rfl)) (fun _ _ _ _ _ => (dg_name 3 sc_need_both.nd)) (fun _ _ _ _ _ => dts_nil) (fun _ _ _ _ _ => (de_ork (KK := K) (de_cmp do_isN (dv 3) de_non) (de_one (de_own h_is_integer ⟨rfl, rfl, rfl, rfl, rfl⟩ (hr.mono (by decide)) rfl air0 (da_cons (dv 3) da_nil)))))) da_nil)))) (dss_one (ds_raise rfl T.x_NotUsable T.g_NotUsable T.n_super (k := 0) (hr.mono (by decide)) tkD (da_cons de_str (da_cons (de_un du_neg de_int) da_nil)) rfl)) dss_nil))))), ?_⟩⟩
  rintro as Q PX hl ⟨w, x, y, rfl, sx, sy, h1, h2, h3⟩
  have r1 : ¬ goodOne w x → PX ⟨He.ga K "NotUsable", [(("at" : Str), .int (-1)), (("word" : Str), .str "one")]⟩ := h1
  have r2 : goodOne w x → ¬ goodPat w y → PX ⟨He.ga K "NotUsable", [(("at" : Str), .int (-1)), (("word" : Str), .str "pattern")]⟩ := h2
  refine i_seq fun N hN => ?_
  have step2 : ∀ l, x = .tuple l → (l.length : Int) = w → l.length ≤ 16777216 → N [some (.d (.int w)), some (.d x), some (.d y), none] := fun l ex el es => by
    subst ex
    rw [hN]
    refine i_seq fun N2 hN2 => ?_
    have step3 : goodOne w (.tuple l) → N2 [some (.d (.int w)), some (.d (.tuple l)), some (.d y), none] := fun go => by
      rw [hN2]
      refine i_seq fun N3 hN3 => ?_
      have step4 : ∀ m, y = .tuple m → (m.length : Int) = w → m.length ≤ 16777216 → N3 [some (.d (.int w)), some (.d (.tuple l)), some (.d y), none] := fun m ey em es2 => by
        subst ey
        rw [hN3]
        simp [vw_jk, at_0, at_1, at_2, at_3, at_4, ix_40, ix_41, ix_42, ix_43, boolsD_comp, intsD_comp, sh_int, sh_bool, sh_none, sh_str, ev_int, ev_bool, ev_str, ev_none, ev_ni, ev_in, uIfS, evT, ev, uRet, uRetO, uRetN, uDrop, uSet, uSetO, uMove, uFrz, uNext, uBreak, uCont, uApp, uIns, uPut, uPutA, uAug, uRaise, uVar, uC, uOp, uUn, uTru, uTst, uNot, uAnd, uOr, uAndV, uOrV, uNotV, uIf, uNil, uCons, argU, uTup, uLst, allD, onDs, onD, onT, onBool, oI, oIC, oAdd, oEq, oIsN, isN_none, isN_int, isN_bool, isN_str, isN_list, isN_tup, truD, oIx, uSl, uPart, uNoP, oSl, uCB, oLen, oList, oTuple, oInt, oAbs, oAll, oAny, oSum, onB, onI, uIs, uIs2, isT, uCall, uCallP, pick, vw, vw1, okU, okX, nolU, nol, nols, startU, kOf, kQ, kT, onL, uSeqI, uRng1, uRng2, rOk, uEnum, uRep, uTupRev, uYes, ugN, ugT2, wipeU, setU, uIfQ, uRetQ, uSetQ, uPutQ, ixC, szD, List.map_cons, List.map_nil, List.length_cons, List.length_nil, List.replicate, List.cons_append, List.nil_append, List.getElem?_cons_zero, List.getElem?_cons_succ, List.set_cons_zero, List.set_cons_succ, Option.map_some, Option.map_none, List.getD, Option.getD_some, if_true, true_and, and_true, Nat.reduceAdd, Nat.reduceSub, reduceIte, Bool.false_eq_true, Bool.not_true, Bool.not_false]
        refine i_lc ?_
        simp [vw_jk, at_0, at_1, at_2, at_3, at_4, ix_40, ix_41, ix_42, ix_43, boolsD_comp, intsD_comp, sh_int, sh_bool, sh_none, sh_str, ev_int, ev_bool, ev_str, ev_none, ev_ni, ev_in, uIfS, evT, ev, uRet, uRetO, uRetN, uDrop, uSet, uSetO, uMove, uFrz, uNext, uBreak, uCont, uApp, uIns, uPut, uPutA, uAug, uRaise, uVar, uC, uOp, uUn, uTru, uTst, uNot, uAnd, uOr, uAndV, uOrV, uNotV, uIf, uNil, uCons, argU, uTup, uLst, allD, onDs, onD, onT, onBool, oI, oIC, oAdd, oEq, oIsN, isN_none, isN_int, isN_bool, isN_str, isN_list, isN_tup, truD, oIx, uSl, uPart, uNoP, oSl, uCB, oLen, oList, oTuple, oInt, oAbs, oAll, oAny, oSum, onB, onI, uIs, uIs2, isT, uCall, uCallP, pick, vw, vw1, okU, okX, nolU, nol, nols, startU, kOf, kQ, kT, onL, uSeqI, uRng1, uRng2, rOk, uEnum, uRep, uTupRev, uYes, ugN, ugT2, wipeU, setU, uIfQ, uRetQ, uSetQ, uPutQ, ixC, szD, List.map_cons, List.map_nil, List.length_cons, List.length_nil, List.replicate, List.cons_append, List.nil_append, List.getElem?_cons_zero, List.getElem?_cons_succ, List.set_cons_zero, List.set_cons_succ, Option.map_some, Option.map_none, List.getD, Option.getD_some, if_true, true_and, and_true, Nat.reduceAdd, Nat.reduceSub, reduceIte, Bool.false_eq_true, Bool.not_true, Bool.not_false]
        refine lc_fun (fun d => [.bool (okN d)]) (lt_line es2) (fun i d e => ⟨_, rfl, by simp, fun acc J hJ => ?_⟩) ?_
        · cases d <;> simp [vw_jk, at_0, at_1, at_2, at_3, at_4, ix_40, ix_41, ix_42, ix_43, boolsD_comp, intsD_comp, sh_int, sh_bool, sh_none, sh_str, ev_int, ev_bool, ev_str, ev_none, ev_ni, ev_in, uIfS, evT, ev, uRet, uRetO, uRetN, uDrop, uSet, uSetO, uMove, uFrz, uNext, uBreak, uCont, uApp, uIns, uPut, uPutA, uAug, uRaise, uVar, uC, uOp, uUn, uTru, uTst, uNot, uAnd, uOr, uAndV, uOrV, uNotV, uIf, uNil, uCons, argU, uTup, uLst, allD, onDs, onD, onT, onBool, oI, oIC, oAdd, oEq, oIsN, isN_none, isN_int, isN_bool, isN_str, isN_list, isN_tup, truD, oIx, uSl, uPart, uNoP, oSl, uCB, oLen, oList, oTuple, oInt, oAbs, oAll, oAny, oSum, onB, onI, uIs, uIs2, isT, uCall, uCallP, pick, vw, vw1, okU, okX, nolU, nol, nols, startU, kOf, kQ, kT, onL, uSeqI, uRng1, uRng2, rOk, uEnum, uRep, uTupRev, uYes, ugN, ugT2, wipeU, setU, uIfQ, uRetQ, uSetQ, uPutQ, ixC, szD, List.map_cons, List.map_nil, List.length_cons, List.length_nil, List.replicate, List.cons_append, List.nil_append, List.getElem?_cons_zero, List.getElem?_cons_succ, List.set_cons_zero, List.set_cons_succ, Option.map_some, Option.map_none, List.getD, Option.getD_some, if_true, true_and, and_true, Nat.reduceAdd, Nat.reduceSub, reduceIte, Bool.false_eq_true, Bool.not_true, Bool.not_false, fn_is_integer, isI] <;> exact hJ
        · rw [bits_all]
          simp [vw_jk, at_0, at_1, at_2, at_3, at_4, ix_40, ix_41, ix_42, ix_43, boolsD_comp, intsD_comp, sh_int, sh_bool, sh_none, sh_str, ev_int, ev_bool, ev_str, ev_none, ev_ni, ev_in, uIfS, evT, ev, uRet, uRetO, uRetN, uDrop, uSet, uSetO, uMove, uFrz, uNext, uBreak, uCont, uApp, uIns, uPut, uPutA, uAug, uRaise, uVar, uC, uOp, uUn, uTru, uTst, uNot, uAnd, uOr, uAndV, uOrV, uNotV, uIf, uNil, uCons, argU, uTup, uLst, allD, onDs, onD, onT, onBool, oI, oIC, oAdd, oEq, oIsN, isN_none, isN_int, isN_bool, isN_str, isN_list, isN_tup, truD, oIx, uSl, uPart, uNoP, oSl, uCB, oLen, oList, oTuple, oInt, oAbs, oAll, oAny, oSum, onB, onI, uIs, uIs2, isT, uCall, uCallP, pick, vw, vw1, okU, okX, nolU, nol, nols, startU, kOf, kQ, kT, onL, uSeqI, uRng1, uRng2, rOk, uEnum, uRep, uTupRev, uYes, ugN, ugT2, wipeU, setU, uIfQ, uRetQ, uSetQ, uPutQ, ixC, szD, List.map_cons, List.map_nil, List.length_cons, List.length_nil, List.replicate, List.cons_append, List.nil_append, List.getElem?_cons_zero, List.getElem?_cons_succ, List.set_cons_zero, List.set_cons_succ, Option.map_some, Option.map_none, List.getD, Option.getD_some, if_true, true_and, and_true, Nat.reduceAdd, Nat.reduceSub, reduceIte, Bool.false_eq_true, Bool.not_true, Bool.not_false, boolsD_map]
          split
          · next z => exact ⟨_, _, ⟨rfl, rfl⟩, r2 go (fun ⟨m', e', _, q⟩ => by
              cases e'
              obtain ⟨a, a1, a2⟩ := z
              have := List.all_eq_true.mp q a a1
              rw [a2] at this; cases this)⟩
          · next z => exact h3 go ⟨m, rfl, em, by simpa [allN] using z⟩
      cases y with
      | tuple m =>
        simp [vw_jk, at_0, at_1, at_2, at_3, at_4, ix_40, ix_41, ix_42, ix_43, boolsD_comp, intsD_comp, sh_int, sh_bool, sh_none, sh_str, ev_int, ev_bool, ev_str, ev_none, ev_ni, ev_in, uIfS, evT, ev, uRet, uRetO, uRetN, uDrop, uSet, uSetO, uMove, uFrz, uNext, uBreak, uCont, uApp, uIns, uPut, uPutA, uAug, uRaise, uVar, uC, uOp, uUn, uTru, uTst, uNot, uAnd, uOr, uAndV, uOrV, uNotV, uIf, uNil, uCons, argU, uTup, uLst, allD, onDs, onD, onT, onBool, oI, oIC, oAdd, oEq, oIsN, isN_none, isN_int, isN_bool, isN_str, isN_list, isN_tup, truD, oIx, uSl, uPart, uNoP, oSl, uCB, oLen, oList, oTuple, oInt, oAbs, oAll, oAny, oSum, onB, onI, uIs, uIs2, isT, uCall, uCallP, pick, vw, vw1, okU, okX, nolU, nol, nols, startU, kOf, kQ, kT, onL, uSeqI, uRng1, uRng2, rOk, uEnum, uRep, uTupRev, uYes, ugN, ugT2, wipeU, setU, uIfQ, uRetQ, uSetQ, uPutQ, ixC, szD, List.map_cons, List.map_nil, List.length_cons, List.length_nil, List.replicate, List.cons_append, List.nil_append, List.getElem?_cons_zero, List.getElem?_cons_succ, List.set_cons_zero, List.set_cons_succ, Option.map_some, Option.map_none, List.getD, Option.getD_some, if_true, true_and, and_true, Nat.reduceAdd, Nat.reduceSub, reduceIte, Bool.false_eq_true, Bool.not_true, Bool.not_false]
        split
        · next z => exact step4 m rfl z sy
        · next z => exact ⟨_, _, ⟨rfl, rfl⟩, r2 go fun ⟨m', e', q, _⟩ => z (by cases e'; exact q)⟩
      | _ =>
        simp [vw_jk, at_0, at_1, at_2, at_3, at_4, ix_40, ix_41, ix_42, ix_43, boolsD_comp, intsD_comp, sh_int, sh_bool, sh_none, sh_str, ev_int, ev_bool, ev_str, ev_none, ev_ni, ev_in, uIfS, evT, ev, uRet, uRetO, uRetN, uDrop, uSet, uSetO, uMove, uFrz, uNext, uBreak, uCont, uApp, uIns, uPut, uPutA, uAug, uRaise, uVar, uC, uOp, uUn, uTru, uTst, uNot, uAnd, uOr, uAndV, uOrV, uNotV, uIf, uNil, uCons, argU, uTup, uLst, allD, onDs, onD, onT, onBool, oI, oIC, oAdd, oEq, oIsN, isN_none, isN_int, isN_bool, isN_str, isN_list, isN_tup, truD, oIx, uSl, uPart, uNoP, oSl, uCB, oLen, oList, oTuple, oInt, oAbs, oAll, oAny, oSum, onB, onI, uIs, uIs2, isT, uCall, uCallP, pick, vw, vw1, okU, okX, nolU, nol, nols, startU, kOf, kQ, kT, onL, uSeqI, uRng1, uRng2, rOk, uEnum, uRep, uTupRev, uYes, ugN, ugT2, wipeU, setU, uIfQ, uRetQ, uSetQ, uPutQ, ixC, szD, List.map_cons, List.map_nil, List.length_cons, List.length_nil, List.replicate, List.cons_append, List.nil_append, List.getElem?_cons_zero, List.getElem?_cons_succ, List.set_cons_zero, List.set_cons_succ, Option.map_some, Option.map_none, List.getD, Option.getD_some, if_true, true_and, and_true, Nat.reduceAdd, Nat.reduceSub, reduceIte, Bool.false_eq_true, Bool.not_true, Bool.not_false]
        exact ⟨_, _, ⟨rfl, rfl⟩, r2 go fun ⟨m', e', _⟩ => by cases e'⟩
    simp [vw_jk, at_0, at_1, at_2, at_3, at_4, ix_40, ix_41, ix_42, ix_43, boolsD_comp, intsD_comp, sh_int, sh_bool, sh_none, sh_str, ev_int, ev_bool, ev_str, ev_none, ev_ni, ev_in, uIfS, evT, ev, uRet, uRetO, uRetN, uDrop, uSet, uSetO, uMove, uFrz, uNext, uBreak, uCont, uApp, uIns, uPut, uPutA, uAug, uRaise, uVar, uC, uOp, uUn, uTru, uTst, uNot, uAnd, uOr, uAndV, uOrV, uNotV, uIf, uNil, uCons, argU, uTup, uLst, allD, onDs, onD, onT, onBool, oI, oIC, oAdd, oEq, oIsN, isN_none, isN_int, isN_bool, isN_str, isN_list, isN_tup, truD, oIx, uSl, uPart, uNoP, oSl, uCB, oLen, oList, oTuple, oInt, oAbs, oAll, oAny, oSum, onB, onI, uIs, uIs2, isT, uCall, uCallP, pick, vw, vw1, okU, okX, nolU, nol, nols, startU, kOf, kQ, kT, onL, uSeqI, uRng1, uRng2, rOk, uEnum, uRep, uTupRev, uYes, ugN, ugT2, wipeU, setU, uIfQ, uRetQ, uSetQ, uPutQ, ixC, szD, List.map_cons, List.map_nil, List.length_cons, List.length_nil, List.replicate, List.cons_append, List.nil_append, List.getElem?_cons_zero, List.getElem?_cons_succ, List.set_cons_zero, List.set_cons_succ, Option.map_some, Option.map_none, List.getD, Option.getD_some, if_true, true_and, and_true, Nat.reduceAdd, Nat.reduceSub, reduceIte, Bool.false_eq_true, Bool.not_true, Bool.not_false]
    refine i_lc ?_
    simp [vw_jk, at_0, at_1, at_2, at_3, at_4, ix_40, ix_41, ix_42, ix_43, boolsD_comp, intsD_comp, sh_int, sh_bool, sh_none, sh_str, ev_int, ev_bool, ev_str, ev_none, ev_ni, ev_in, uIfS, evT, ev, uRet, uRetO, uRetN, uDrop, uSet, uSetO, uMove, uFrz, uNext, uBreak, uCont, uApp, uIns, uPut, uPutA, uAug, uRaise, uVar, uC, uOp, uUn, uTru, uTst, uNot, uAnd, uOr, uAndV, uOrV, uNotV, uIf, uNil, uCons, argU, uTup, uLst, allD, onDs, onD, onT, onBool, oI, oIC, oAdd, oEq, oIsN, isN_none, isN_int, isN_bool, isN_str, isN_list, isN_tup, truD, oIx, uSl, uPart, uNoP, oSl, uCB, oLen, oList, oTuple, oInt, oAbs, oAll, oAny, oSum, onB, onI, uIs, uIs2, isT, uCall, uCallP, pick, vw, vw1, okU, okX, nolU, nol, nols, startU, kOf, kQ, kT, onL, uSeqI, uRng1, uRng2, rOk, uEnum, uRep, uTupRev, uYes, ugN, ugT2, wipeU, setU, uIfQ, uRetQ, uSetQ, uPutQ, ixC, szD, List.map_cons, List.map_nil, List.length_cons, List.length_nil, List.replicate, List.cons_append, List.nil_append, List.getElem?_cons_zero, List.getElem?_cons_succ, List.set_cons_zero, List.set_cons_succ, Option.map_some, Option.map_none, List.getD, Option.getD_some, if_true, true_and, and_true, Nat.reduceAdd, Nat.reduceSub, reduceIte, Bool.false_eq_true, Bool.not_true, Bool.not_false]
    refine lc_fun (fun d => [.bool (isI d)]) (lt_line es) (fun i d e => ⟨_, rfl, by simp, fun acc J hJ => ?_⟩) ?_
    · simp [vw_jk, at_0, at_1, at_2, at_3, at_4, ix_40, ix_41, ix_42, ix_43, boolsD_comp, intsD_comp, sh_int, sh_bool, sh_none, sh_str, ev_int, ev_bool, ev_str, ev_none, ev_ni, ev_in, uIfS, evT, ev, uRet, uRetO, uRetN, uDrop, uSet, uSetO, uMove, uFrz, uNext, uBreak, uCont, uApp, uIns, uPut, uPutA, uAug, uRaise, uVar, uC, uOp, uUn, uTru, uTst, uNot, uAnd, uOr, uAndV, uOrV, uNotV, uIf, uNil, uCons, argU, uTup, uLst, allD, onDs, onD, onT, onBool, oI, oIC, oAdd, oEq, oIsN, isN_none, isN_int, isN_bool, isN_str, isN_list, isN_tup, truD, oIx, uSl, uPart, uNoP, oSl, uCB, oLen, oList, oTuple, oInt, oAbs, oAll, oAny, oSum, onB, onI, uIs, uIs2, isT, uCall, uCallP, pick, vw, vw1, okU, okX, nolU, nol, nols, startU, kOf, kQ, kT, onL, uSeqI, uRng1, uRng2, rOk, uEnum, uRep, uTupRev, uYes, ugN, ugT2, wipeU, setU, uIfQ, uRetQ, uSetQ, uPutQ, ixC, szD, List.map_cons, List.map_nil, List.length_cons, List.length_nil, List.replicate, List.cons_append, List.nil_append, List.getElem?_cons_zero, List.getElem?_cons_succ, List.set_cons_zero, List.set_cons_succ, Option.map_some, Option.map_none, List.getD, Option.getD_some, if_true, true_and, and_true, Nat.reduceAdd, Nat.reduceSub, reduceIte, Bool.false_eq_true, Bool.not_true, Bool.not_false, fn_is_integer]
      exact hJ
    · rw [bits_all]
      simp [vw_jk, at_0, at_1, at_2, at_3, at_4, ix_40, ix_41, ix_42, ix_43, boolsD_comp, intsD_comp, sh_int, sh_bool, sh_none, sh_str, ev_int, ev_bool, ev_str, ev_none, ev_ni, ev_in, uIfS, evT, ev, uRet, uRetO, uRetN, uDrop, uSet, uSetO, uMove, uFrz, uNext, uBreak, uCont, uApp, uIns, uPut, uPutA, uAug, uRaise, uVar, uC, uOp, uUn, uTru, uTst, uNot, uAnd, uOr, uAndV, uOrV, uNotV, uIf, uNil, uCons, argU, uTup, uLst, allD, onDs, onD, onT, onBool, oI, oIC, oAdd, oEq, oIsN, isN_none, isN_int, isN_bool, isN_str, isN_list, isN_tup, truD, oIx, uSl, uPart, uNoP, oSl, uCB, oLen, oList, oTuple, oInt, oAbs, oAll, oAny, oSum, onB, onI, uIs, uIs2, isT, uCall, uCallP, pick, vw, vw1, okU, okX, nolU, nol, nols, startU, kOf, kQ, kT, onL, uSeqI, uRng1, uRng2, rOk, uEnum, uRep, uTupRev, uYes, ugN, ugT2, wipeU, setU, uIfQ, uRetQ, uSetQ, uPutQ, ixC, szD, List.map_cons, List.map_nil, List.length_cons, List.length_nil, List.replicate, List.cons_append, List.nil_append, List.getElem?_cons_zero, List.getElem?_cons_succ, List.set_cons_zero, List.set_cons_succ, Option.map_some, Option.map_none, List.getD, Option.getD_some, if_true, true_and, and_true, Nat.reduceAdd, Nat.reduceSub, reduceIte, Bool.false_eq_true, Bool.not_true, Bool.not_false, boolsD_map]
      split
      · next z => exact ⟨_, _, ⟨rfl, rfl⟩, r1 (fun ⟨m', e', _, q⟩ => by
          cases e'
          obtain ⟨a, a1, a2⟩ := z
          have := List.all_eq_true.mp q a a1
          rw [a2] at this; cases this)⟩
      · next z => exact step3 ⟨l, rfl, el, by simpa [allI] using z⟩
  cases x with
  | tuple l =>
    simp [vw_jk, at_0, at_1, at_2, at_3, at_4, ix_40, ix_41, ix_42, ix_43, boolsD_comp, intsD_comp, sh_int, sh_bool, sh_none, sh_str, ev_int, ev_bool, ev_str, ev_none, ev_ni, ev_in, uIfS, evT, ev, uRet, uRetO, uRetN, uDrop, uSet, uSetO, uMove, uFrz, uNext, uBreak, uCont, uApp, uIns, uPut, uPutA, uAug, uRaise, uVar, uC, uOp, uUn, uTru, uTst, uNot, uAnd, uOr, uAndV, uOrV, uNotV, uIf, uNil, uCons, argU, uTup, uLst, allD, onDs, onD, onT, onBool, oI, oIC, oAdd, oEq, oIsN, isN_none, isN_int, isN_bool, isN_str, isN_list, isN_tup, truD, oIx, uSl, uPart, uNoP, oSl, uCB, oLen, oList, oTuple, oInt, oAbs, oAll, oAny, oSum, onB, onI, uIs, uIs2, isT, uCall, uCallP, pick, vw, vw1, okU, okX, nolU, nol, nols, startU, kOf, kQ, kT, onL, uSeqI, uRng1, uRng2, rOk, uEnum, uRep, uTupRev, uYes, ugN, ugT2, wipeU, setU, uIfQ, uRetQ, uSetQ, uPutQ, ixC, szD, List.map_cons, List.map_nil, List.length_cons, List.length_nil, List.replicate, List.cons_append, List.nil_append, List.getElem?_cons_zero, List.getElem?_cons_succ, List.set_cons_zero, List.set_cons_succ, Option.map_some, Option.map_none, List.getD, Option.getD_some, if_true, true_and, and_true, Nat.reduceAdd, Nat.reduceSub, reduceIte, Bool.false_eq_true, Bool.not_true, Bool.not_false]
    split
    · next z => exact step2 l rfl z sx
    · next z => exact ⟨_, _, ⟨rfl, rfl⟩, r1 fun ⟨m', e', q, _⟩ => z (by cases e'; exact q)⟩
  | _ =>
    simp [vw_jk, at_0, at_1, at_2, at_3, at_4, ix_40, ix_41, ix_42, ix_43, boolsD_comp, intsD_comp, sh_int, sh_bool, sh_none, sh_str, ev_int, ev_bool, ev_str, ev_none, ev_ni, ev_in, uIfS, evT, ev, uRet, uRetO, uRetN, uDrop, uSet, uSetO, uMove, uFrz, uNext, uBreak, uCont, uApp, uIns, uPut, uPutA, uAug, uRaise, uVar, uC, uOp, uUn, uTru, uTst, uNot, uAnd, uOr, uAndV, uOrV, uNotV, uIf, uNil, uCons, argU, uTup, uLst, allD, onDs, onD, onT, onBool, oI, oIC, oAdd, oEq, oIsN, isN_none, isN_int, isN_bool, isN_str, isN_list, isN_tup, truD, oIx, uSl, uPart, uNoP, oSl, uCB, oLen, oList, oTuple, oInt, oAbs, oAll, oAny, oSum, onB, onI, uIs, uIs2, isT, uCall, uCallP, pick, vw, vw1, okU, okX, nolU, nol, nols, startU, kOf, kQ, kT, onL, uSeqI, uRng1, uRng2, rOk, uEnum, uRep, uTupRev, uYes, ugN, ugT2, wipeU, setU, uIfQ, uRetQ, uSetQ, uPutQ, ixC, szD, List.map_cons, List.map_nil, List.length_cons, List.length_nil, List.replicate, List.cons_append, List.nil_append, List.getElem?_cons_zero, List.getElem?_cons_succ, List.set_cons_zero, List.set_cons_succ, Option.map_some, Option.map_none, List.getD, Option.getD_some, if_true, true_and, and_true, Nat.reduceAdd, Nat.reduceSub, reduceIte, Bool.false_eq_true, Bool.not_true, Bool.not_false]
    exact ⟨_, _, ⟨rfl, rfl⟩, r1 fun ⟨m', e', _⟩ => by cases e'⟩
theorem sc_agreements : FnScope ["wheel", "one", "pattern", "asked", "r", "value", "counts", "t"] ["wheel", "one", "pattern"] (defScope s_agreements) := ⟨rfl, rfl, rfl, by decide +kernel, rfl, by decide +kernel, by decide +kernel⟩
def hit (l m : List D) (t r : Nat) : Bool := !isN (m[r]?.getD .none) && PyData.eqv (l[(r + t) % l.length]?.getD .none) (m[r]?.getD .none)
def cnt (l m : List D) (t : Nat) : Nat := ((List.range l.length).filter (hit l m t)).length
/-- how many places agree, for each turn -/
def agr (l m : List D) : List D := (List.range l.length).map fun t => .int (cnt l m t)
def refusals (K : Fr) (w : Int) (x y : D) (PX : Ex → Prop) : Prop := sml x ∧ sml y ∧ (¬ goodOne w x → PX (refused K "one")) ∧ (goodOne w x → ¬ goodPat w y → PX (refused K "pattern"))
def fn_agreements (K : Fr) : Fn := fun as P PX => ∃ w x y, as = [.d (.int w), .d x, .d y] ∧ refusals K w x y PX ∧ ∀ l m, x = .tuple l → y = .tuple m → (l.length : Int) = w → (m.length : Int) = w → allI l = true → allN m = true → P (.d (.tuple (agr l m)))
theorem isI_int {x : D} (h : isI x = true) : ∃ i, x = .int i := by cases x <;> simp [isI] at h; exact ⟨_, rfl⟩
/-- the places that are asked -/
def askL (m : List D) : List Nat := (List.range m.length).filter fun r => !isN (m[r]?.getD .none)
theorem has_agreements (T : Tk P K mg) {fd_need_both : FuncData} (h_need_both : Has P w K mg base 3 "need_both" s_need_both ["wheel", "one", "pattern"] (fn_need_both K) fd_need_both) : ∃ fd, Has P w K mg base 4 "agreements" s_agreements ["wheel", "one", "pattern"] (fn_agreements K) fd := by
  obtain ⟨fd, F⟩ := T.f_agreements
  have hb := F.binds (ps := ["wheel", "one", "pattern"]) fun _ _ _ _ _ _ us hl => match us, hl with | [_, _, _], _ => rfl
  refine ⟨fd, T.g_agreements, F.kp, F, hb, fnD F sc_agreements (by decide) fun cdv A outer s H E hr => ⟨_, _, (dss_cons (ds_expr false (de_own h_need_both ⟨rfl, rfl, rfl, rfl, rfl⟩ (hr.mono (by decide)) rfl airD (da_cons (dv 0) (da_cons (dv 1) (da_cons (dv 2) da_nil)))))
    (dss_cons (ds_setLc (i := 3) false rfl sc_agreements.nd rfl rfl rfl (own := [("r", 4), ("value", 5)]) (di_enumk (KK := K) (dv 2) rfl T.n_enumerate) (blk_of (by kernel_rfl)) (fun _ _ _ _ _ => (dg_tup2k (KK := K) 4 5 rfl sc_agreements.nd)) (fun _ _ _ _ _ => (dts_one (dt_cmp do_notN (dv 5) de_non))) (fun _ _ _ _ _ => (de_tup (da_cons (dv 4) (da_cons (dv 5) da_nil)))))
    (dss_cons (ds_setO false 6 (de_lst da_nil) sc_agreements.nd)
    (dss_cons (ds_for poD rfl (di_rng1 (dv 0) rfl T.n_range) (dg_name 7 sc_agreements.nd) (dss_one (ds_appk (KK := K) false 6 (de_callB (dc_lenk (KK := K)) rfl T.n_len bt_len (da_cons (de_lc rfl sc_agreements.nd (own := [("r", 4), ("value", 5)]) (di_seqk (KK := K) (dv 3)) (blk_of (by kernel_rfl)) (fun _ _ _ _ _ => (dg_tup2k (KK := K) 4 5 rfl sc_agreements.nd)) (fun _ _ _ _ _ => (dts_one (dt_cmp (do_eqk (KK := K) hr.units) (de_ixk (KK := K) (dv 1) (de_op do_mod (de_op (do_addk (KK := K)) (dv 4) (dv 7)) (dv 0))) (dv 5)))) (fun _ _ _ _ _ => (dv 4))) da_nil)))))
    (dss_one (ds_ret true (de_callTy (dc_tuplek (KK := K)) rfl T.n_tuple bt_tuple (da_cons (dv 6) da_nil)))))))), ?_⟩⟩
  rintro as Q PX hl ⟨w, x, y, rfl, ⟨sx, sy, h1, h2⟩, h3⟩
  refine i_seq fun N hN => ?_
  simp [vw_jk, at_0, at_1, at_2, at_3, at_4, ix_40, ix_41, ix_42, ix_43, boolsD_comp, intsD_comp, sh_int, sh_bool, sh_none, sh_str, ev_int, ev_bool, ev_str, ev_none, ev_ni, ev_in, uIfS, evT, ev, uRet, uRetO, uRetN, uDrop, uSet, uSetO, uMove, uFrz, uNext, uBreak, uCont, uApp, uIns, uPut, uPutA, uAug, uRaise, uVar, uC, uOp, uUn, uTru, uTst, uNot, uAnd, uOr, uAndV, uOrV, uNotV, uIf, uNil, uCons, argU, uTup, uLst, allD, onDs, onD, onT, onBool, oI, oIC, oAdd, oEq, oIsN, isN_none, isN_int, isN_bool, isN_str, isN_list, isN_tup, truD, oIx, uSl, uPart, uNoP, oSl, uCB, oLen, oList, oTuple, oInt, oAbs, oAll, oAny, oSum, onB, onI, uIs, uIs2, isT, uCall, uCallP, pick, vw, vw1, okU, okX, nolU, nol, nols, startU, kOf, kQ, kT, onL, uSeqI, uRng1, uRng2, rOk, uEnum, uRep, uTupRev, uYes, ugN, ugT2, wipeU, setU, uIfQ, uRetQ, uSetQ, uPutQ, ixC, szD, List.map_cons, List.map_nil, List.length_cons, List.length_nil, List.replicate, List.cons_append, List.nil_append, List.getElem?_cons_zero, List.getElem?_cons_succ, List.set_cons_zero, List.set_cons_succ, Option.map_some, Option.map_none, List.getD, Option.getD_some, if_true, true_and, and_true, Nat.reduceAdd, Nat.reduceSub, reduceIte, Bool.false_eq_true, Bool.not_true, Bool.not_false]
  refine ⟨w, x, y, rfl, sx, sy, h1, h2, fun go gp => ?_⟩
  simp [vw_jk, at_0, at_1, at_2, at_3, at_4, ix_40, ix_41, ix_42, ix_43, boolsD_comp, intsD_comp, sh_int, sh_bool, sh_none, sh_str, ev_int, ev_bool, ev_str, ev_none, ev_ni, ev_in, uIfS, evT, ev, uRet, uRetO, uRetN, uDrop, uSet, uSetO, uMove, uFrz, uNext, uBreak, uCont, uApp, uIns, uPut, uPutA, uAug, uRaise, uVar, uC, uOp, uUn, uTru, uTst, uNot, uAnd, uOr, uAndV, uOrV, uNotV, uIf, uNil, uCons, argU, uTup, uLst, allD, onDs, onD, onT, onBool, oI, oIC, oAdd, oEq, oIsN, isN_none, isN_int, isN_bool, isN_str, isN_list, isN_tup, truD, oIx, uSl, uPart, uNoP, oSl, uCB, oLen, oList, oTuple, oInt, oAbs, oAll, oAny, oSum, onB, onI, uIs, uIs2, isT, uCall, uCallP, pick, vw, vw1, okU, okX, nolU, nol, nols, startU, kOf, kQ, kT, onL, uSeqI, uRng1, uRng2, rOk, uEnum, uRep, uTupRev, uYes, ugN, ugT2, wipeU, setU, uIfQ, uRetQ, uSetQ, uPutQ, ixC, szD, List.map_cons, List.map_nil, List.length_cons, List.length_nil, List.replicate, List.cons_append, List.nil_append, List.getElem?_cons_zero, List.getElem?_cons_succ, List.set_cons_zero, List.set_cons_succ, Option.map_some, Option.map_none, List.getD, Option.getD_some, if_true, true_and, and_true, Nat.reduceAdd, Nat.reduceSub, reduceIte, Bool.false_eq_true, Bool.not_true, Bool.not_false]
  obtain ⟨l, rfl, el, al⟩ := go
  obtain ⟨m, rfl, em, am⟩ := gp
  have ew : l.length = m.length := by omega
  have q := h3 l m rfl rfl el em al am
  rw [hN]
  refine i_seq fun N2 hN2 => ?_
  simp [vw_jk, at_0, at_1, at_2, at_3, at_4, ix_40, ix_41, ix_42, ix_43, boolsD_comp, intsD_comp, sh_int, sh_bool, sh_none, sh_str, ev_int, ev_bool, ev_str, ev_none, ev_ni, ev_in, uIfS, evT, ev, uRet, uRetO, uRetN, uDrop, uSet, uSetO, uMove, uFrz, uNext, uBreak, uCont, uApp, uIns, uPut, uPutA, uAug, uRaise, uVar, uC, uOp, uUn, uTru, uTst, uNot, uAnd, uOr, uAndV, uOrV, uNotV, uIf, uNil, uCons, argU, uTup, uLst, allD, onDs, onD, onT, onBool, oI, oIC, oAdd, oEq, oIsN, isN_none, isN_int, isN_bool, isN_str, isN_list, isN_tup, truD, oIx, uSl, uPart, uNoP, oSl, uCB, oLen, oList, oTuple, oInt, oAbs, oAll, oAny, oSum, onB, onI, uIs, uIs2, isT, uCall, uCallP, pick, vw, vw1, okU, okX, nolU, nol, nols, startU, kOf, kQ, kT, onL, uSeqI, uRng1, uRng2, rOk, uEnum, uRep, uTupRev, uYes, ugN, ugT2, wipeU, setU, uIfQ, uRetQ, uSetQ, uPutQ, ixC, szD, List.map_cons, List.map_nil, List.length_cons, List.length_nil, List.replicate, List.cons_append, List.nil_append, List.getElem?_cons_zero, List.getElem?_cons_succ, List.set_cons_zero, List.set_cons_succ, Option.map_some, Option.map_none, List.getD, Option.getD_some, if_true, true_and, and_true, Nat.reduceAdd, Nat.reduceSub, reduceIte, Bool.false_eq_true, Bool.not_true, Bool.not_false]
  refine i_lc ?_
  simp [vw_jk, at_0, at_1, at_2, at_3, at_4, ix_40, ix_41, ix_42, ix_43, boolsD_comp, intsD_comp, sh_int, sh_bool, sh_none, sh_str, ev_int, ev_bool, ev_str, ev_none, ev_ni, ev_in, uIfS, evT, ev, uRet, uRetO, uRetN, uDrop, uSet, uSetO, uMove, uFrz, uNext, uBreak, uCont, uApp, uIns, uPut, uPutA, uAug, uRaise, uVar, uC, uOp, uUn, uTru, uTst, uNot, uAnd, uOr, uAndV, uOrV, uNotV, uIf, uNil, uCons, argU, uTup, uLst, allD, onDs, onD, onT, onBool, oI, oIC, oAdd, oEq, oIsN, isN_none, isN_int, isN_bool, isN_str, isN_list, isN_tup, truD, oIx, uSl, uPart, uNoP, oSl, uCB, oLen, oList, oTuple, oInt, oAbs, oAll, oAny, oSum, onB, onI, uIs, uIs2, isT, uCall, uCallP, pick, vw, vw1, okU, okX, nolU, nol, nols, startU, kOf, kQ, kT, onL, uSeqI, uRng1, uRng2, rOk, uEnum, uRep, uTupRev, uYes, ugN, ugT2, wipeU, setU, uIfQ, uRetQ, uSetQ, uPutQ, ixC, szD, List.map_cons, List.map_nil, List.length_cons, List.length_nil, List.replicate, List.cons_append, List.nil_append, List.getElem?_cons_zero, List.getElem?_cons_succ, List.set_cons_zero, List.set_cons_succ, Option.map_some, Option.map_none, List.getD, Option.getD_some, if_true, true_and, and_true, Nat.reduceAdd, Nat.reduceSub, reduceIte, Bool.false_eq_true, Bool.not_true, Bool.not_false]
  rw [enD_range]
  refine lc_fun (fun d => match d with | .tuple [.int r, v] => if (!isN v) = true then [.tuple [.int r, v]] else [] | _ => []) ?_ (fun i d e => ?_) ?_
  · simp; exact lt_line sy
  · rw [List.getElem?_map] at e
    obtain ⟨r, e1, rfl⟩ := Option.map_eq_some_iff.mp e
    refine ⟨_, rfl, by simp, fun acc J hJ => ?_⟩
    simp [vw_jk, at_0, at_1, at_2, at_3, at_4, ix_40, ix_41, ix_42, ix_43, boolsD_comp, intsD_comp, sh_int, sh_bool, sh_none, sh_str, ev_int, ev_bool, ev_str, ev_none, ev_ni, ev_in, uIfS, evT, ev, uRet, uRetO, uRetN, uDrop, uSet, uSetO, uMove, uFrz, uNext, uBreak, uCont, uApp, uIns, uPut, uPutA, uAug, uRaise, uVar, uC, uOp, uUn, uTru, uTst, uNot, uAnd, uOr, uAndV, uOrV, uNotV, uIf, uNil, uCons, argU, uTup, uLst, allD, onDs, onD, onT, onBool, oI, oIC, oAdd, oEq, oIsN, isN_none, isN_int, isN_bool, isN_str, isN_list, isN_tup, truD, oIx, uSl, uPart, uNoP, oSl, uCB, oLen, oList, oTuple, oInt, oAbs, oAll, oAny, oSum, onB, onI, uIs, uIs2, isT, uCall, uCallP, pick, vw, vw1, okU, okX, nolU, nol, nols, startU, kOf, kQ, kT, onL, uSeqI, uRng1, uRng2, rOk, uEnum, uRep, uTupRev, uYes, ugN, ugT2, wipeU, setU, uIfQ, uRetQ, uSetQ, uPutQ, ixC, szD, List.map_cons, List.map_nil, List.length_cons, List.length_nil, List.replicate, List.cons_append, List.nil_append, List.getElem?_cons_zero, List.getElem?_cons_succ, List.set_cons_zero, List.set_cons_succ, Option.map_some, Option.map_none, List.getD, Option.getD_some, if_true, true_and, and_true, Nat.reduceAdd, Nat.reduceSub, reduceIte, Bool.false_eq_true, Bool.not_true, Bool.not_false] at hJ ⊢
    by_cases hn : isN (m[r]?.getD .none) = true
    · simp [hn] at hJ ⊢; exact hJ
    · simp [hn] at hJ ⊢; exact ⟨by decide, hJ⟩
  · rw [List.flatMap_map]
    rw [show (fun (a : Nat) => (match (PyData.tuple [.int (a : Nat), m[a]?.getD .none] : D) with | .tuple [.int r, v] => if (!isN v) = true then [.tuple [.int r, v]] else [] | _ => [])) = fun (a : Nat) => if (!isN (m[a]?.getD .none)) = true then [(PyData.tuple [.int (a : Nat), m[a]?.getD .none] : D)] else [] from rfl]
    rw [flat_if]
    have askN : (List.filter (fun (i : Nat) => !isN (m[i]?.getD .none)) (List.range m.length)) = askL m := rfl
    rw [askN]
    simp [vw_jk, at_0, at_1, at_2, at_3, at_4, ix_40, ix_41, ix_42, ix_43, boolsD_comp, intsD_comp, sh_int, sh_bool, sh_none, sh_str, ev_int, ev_bool, ev_str, ev_none, ev_ni, ev_in, uIfS, evT, ev, uRet, uRetO, uRetN, uDrop, uSet, uSetO, uMove, uFrz, uNext, uBreak, uCont, uApp, uIns, uPut, uPutA, uAug, uRaise, uVar, uC, uOp, uUn, uTru, uTst, uNot, uAnd, uOr, uAndV, uOrV, uNotV, uIf, uNil, uCons, argU, uTup, uLst, allD, onDs, onD, onT, onBool, oI, oIC, oAdd, oEq, oIsN, isN_none, isN_int, isN_bool, isN_str, isN_list, isN_tup, truD, oIx, uSl, uPart, uNoP, oSl, uCB, oLen, oList, oTuple, oInt, oAbs, oAll, oAny, oSum, onB, onI, uIs, uIs2, isT, uCall, uCallP, pick, vw, vw1, okU, okX, nolU, nol, nols, startU, kOf, kQ, kT, onL, uSeqI, uRng1, uRng2, rOk, uEnum, uRep, uTupRev, uYes, ugN, ugT2, wipeU, setU, uIfQ, uRetQ, uSetQ, uPutQ, ixC, szD, List.map_cons, List.map_nil, List.length_cons, List.length_nil, List.replicate, List.cons_append, List.nil_append, List.getElem?_cons_zero, List.getElem?_cons_succ, List.set_cons_zero, List.set_cons_succ, Option.map_some, Option.map_none, List.getD, Option.getD_some, if_true, true_and, and_true, Nat.reduceAdd, Nat.reduceSub, reduceIte, Bool.false_eq_true, Bool.not_true, Bool.not_false]
    rw [hN2]
    refine i_seq fun N3 hN3 => ?_
    simp [vw_jk, at_0, at_1, at_2, at_3, at_4, ix_40, ix_41, ix_42, ix_43, boolsD_comp, intsD_comp, sh_int, sh_bool, sh_none, sh_str, ev_int, ev_bool, ev_str, ev_none, ev_ni, ev_in, uIfS, evT, ev, uRet, uRetO, uRetN, uDrop, uSet, uSetO, uMove, uFrz, uNext, uBreak, uCont, uApp, uIns, uPut, uPutA, uAug, uRaise, uVar, uC, uOp, uUn, uTru, uTst, uNot, uAnd, uOr, uAndV, uOrV, uNotV, uIf, uNil, uCons, argU, uTup, uLst, allD, onDs, onD, onT, onBool, oI, oIC, oAdd, oEq, oIsN, isN_none, isN_int, isN_bool, isN_str, isN_list, isN_tup, truD, oIx, uSl, uPart, uNoP, oSl, uCB, oLen, oList, oTuple, oInt, oAbs, oAll, oAny, oSum, onB, onI, uIs, uIs2, isT, uCall, uCallP, pick, vw, vw1, okU, okX, nolU, nol, nols, startU, kOf, kQ, kT, onL, uSeqI, uRng1, uRng2, rOk, uEnum, uRep, uTupRev, uYes, ugN, ugT2, wipeU, setU, uIfQ, uRetQ, uSetQ, uPutQ, ixC, szD, List.map_cons, List.map_nil, List.length_cons, List.length_nil, List.replicate, List.cons_append, List.nil_append, List.getElem?_cons_zero, List.getElem?_cons_succ, List.set_cons_zero, List.set_cons_succ, Option.map_some, Option.map_none, List.getD, Option.getD_some, if_true, true_and, and_true, Nat.reduceAdd, Nat.reduceSub, reduceIte, Bool.false_eq_true, Bool.not_true, Bool.not_false]
    rw [hN3]
    refine i_seq fun N4 hN4 => ?_
    refine i_for ?_
    simp [vw_jk, at_0, at_1, at_2, at_3, at_4, ix_40, ix_41, ix_42, ix_43, boolsD_comp, intsD_comp, sh_int, sh_bool, sh_none, sh_str, ev_int, ev_bool, ev_str, ev_none, ev_ni, ev_in, uIfS, evT, ev, uRet, uRetO, uRetN, uDrop, uSet, uSetO, uMove, uFrz, uNext, uBreak, uCont, uApp, uIns, uPut, uPutA, uAug, uRaise, uVar, uC, uOp, uUn, uTru, uTst, uNot, uAnd, uOr, uAndV, uOrV, uNotV, uIf, uNil, uCons, argU, uTup, uLst, allD, onDs, onD, onT, onBool, oI, oIC, oAdd, oEq, oIsN, isN_none, isN_int, isN_bool, isN_str, isN_list, isN_tup, truD, oIx, uSl, uPart, uNoP, oSl, uCB, oLen, oList, oTuple, oInt, oAbs, oAll, oAny, oSum, onB, onI, uIs, uIs2, isT, uCall, uCallP, pick, vw, vw1, okU, okX, nolU, nol, nols, startU, kOf, kQ, kT, onL, uSeqI, uRng1, uRng2, rOk, uEnum, uRep, uTupRev, uYes, ugN, ugT2, wipeU, setU, uIfQ, uRetQ, uSetQ, uPutQ, ixC, szD, List.map_cons, List.map_nil, List.length_cons, List.length_nil, List.replicate, List.cons_append, List.nil_append, List.getElem?_cons_zero, List.getElem?_cons_succ, List.set_cons_zero, List.set_cons_succ, Option.map_some, Option.map_none, List.getD, Option.getD_some, if_true, true_and, and_true, Nat.reduceAdd, Nat.reduceSub, reduceIte, Bool.false_eq_true, Bool.not_true, Bool.not_false]
    have hw : w.toNat = l.length := by omega
    have hb : l.length ≤ 16777216 := sx
    refine ⟨⟨by omega, by omega⟩, fun i s' => ∃ o, s' = [some (.d (.int w)), some (.d (.tuple l)), some (.d (.tuple m)), some (.d (.list ((askL m).map fun r => .tuple [.int (r : Nat), m[r]?.getD .none]))), none, none, some (.own ((List.range i).map fun t => .int (cnt l m t))), o], ⟨none, rfl⟩, fun t d s' e hs => ?_, fun s' hs => ?_⟩
    · obtain ⟨o, rfl⟩ := hs
      obtain ⟨rfl, ht⟩ := get_rngD e
      refine i_lc ?_
      simp [vw_jk, at_0, at_1, at_2, at_3, at_4, ix_40, ix_41, ix_42, ix_43, boolsD_comp, intsD_comp, sh_int, sh_bool, sh_none, sh_str, ev_int, ev_bool, ev_str, ev_none, ev_ni, ev_in, uIfS, evT, ev, uRet, uRetO, uRetN, uDrop, uSet, uSetO, uMove, uFrz, uNext, uBreak, uCont, uApp, uIns, uPut, uPutA, uAug, uRaise, uVar, uC, uOp, uUn, uTru, uTst, uNot, uAnd, uOr, uAndV, uOrV, uNotV, uIf, uNil, uCons, argU, uTup, uLst, allD, onDs, onD, onT, onBool, oI, oIC, oAdd, oEq, oIsN, isN_none, isN_int, isN_bool, isN_str, isN_list, isN_tup, truD, oIx, uSl, uPart, uNoP, oSl, uCB, oLen, oList, oTuple, oInt, oAbs, oAll, oAny, oSum, onB, onI, uIs, uIs2, isT, uCall, uCallP, pick, vw, vw1, okU, okX, nolU, nol, nols, startU, kOf, kQ, kT, onL, uSeqI, uRng1, uRng2, rOk, uEnum, uRep, uTupRev, uYes, ugN, ugT2, wipeU, setU, uIfQ, uRetQ, uSetQ, uPutQ, ixC, szD, List.map_cons, List.map_nil, List.length_cons, List.length_nil, List.replicate, List.cons_append, List.nil_append, List.getElem?_cons_zero, List.getElem?_cons_succ, List.set_cons_zero, List.set_cons_succ, Option.map_some, Option.map_none, List.getD, Option.getD_some, if_true, true_and, and_true, Nat.reduceAdd, Nat.reduceSub, reduceIte, Bool.false_eq_true, Bool.not_true, Bool.not_false]
      refine lc_fun (fun d => match d with | .tuple [.int r, v] => if PyData.eqv (l[((r + (t : Int)) % (l.length : Int)).toNat]?.getD .none) v = true then [.int r] else [] | _ => []) ?_ (fun i d e => ?_) ?_
      · rw [List.length_map]
        refine lt_line (Nat.le_trans (List.length_filter_le _ _) ?_)
        rw [List.length_range]; omega
      · rw [List.getElem?_map] at e
        obtain ⟨r, e1, rfl⟩ := Option.map_eq_some_iff.mp e
        have hr := List.mem_filter.mp (List.mem_of_getElem? e1)
        have hr1 : r < m.length := List.mem_range.mp hr.1
        have hr2 : isN (m[r]?.getD .none) = false := by simpa using hr.2
        have tl : t < l.length := by omega
        have hv : ∃ b, m[r]?.getD .none = .int b := by
          have z := all_get am hr1
          cases c : m[r]?.getD .none with
          | int b => exact ⟨b, rfl⟩
          | none => rw [c] at hr2; cases hr2
          | _ => rw [c] at z; cases z
        obtain ⟨b, hb2⟩ := hv
        have hk : ((r : Int) + t) % (l.length : Int) = (((r + t) % l.length : Nat) : Int) := by push_cast; rfl
        have hk2 : (r + t) % l.length < l.length := Nat.mod_lt _ (by omega)
        obtain ⟨a, ha⟩ := isI_int (all_get al hk2)
        have hg : atI l (((r : Int) + t) % w) = some (.int a) := by
          refine atI_nat (n := (r + t) % l.length) (by rw [← el]; exact hk) ?_
          rw [List.getElem?_eq_getElem hk2] at ha ⊢
          simpa using ha
        refine ⟨_, rfl, by simp, fun acc J hJ => ?_⟩
        have hw0 : 0 < w := by omega
        simp [vw_jk, at_0, at_1, at_2, at_3, at_4, ix_40, ix_41, ix_42, ix_43, boolsD_comp, intsD_comp, sh_int, sh_bool, sh_none, sh_str, ev_int, ev_bool, ev_str, ev_none, ev_ni, ev_in, uIfS, evT, ev, uRet, uRetO, uRetN, uDrop, uSet, uSetO, uMove, uFrz, uNext, uBreak, uCont, uApp, uIns, uPut, uPutA, uAug, uRaise, uVar, uC, uOp, uUn, uTru, uTst, uNot, uAnd, uOr, uAndV, uOrV, uNotV, uIf, uNil, uCons, argU, uTup, uLst, allD, onDs, onD, onT, onBool, oI, oIC, oAdd, oEq, oIsN, isN_none, isN_int, isN_bool, isN_str, isN_list, isN_tup, truD, oIx, uSl, uPart, uNoP, oSl, uCB, oLen, oList, oTuple, oInt, oAbs, oAll, oAny, oSum, onB, onI, uIs, uIs2, isT, uCall, uCallP, pick, vw, vw1, okU, okX, nolU, nol, nols, startU, kOf, kQ, kT, onL, uSeqI, uRng1, uRng2, rOk, uEnum, uRep, uTupRev, uYes, ugN, ugT2, wipeU, setU, uIfQ, uRetQ, uSetQ, uPutQ, ixC, szD, List.map_cons, List.map_nil, List.length_cons, List.length_nil, List.replicate, List.cons_append, List.nil_append, List.getElem?_cons_zero, List.getElem?_cons_succ, List.set_cons_zero, List.set_cons_succ, Option.map_some, Option.map_none, List.getD, Option.getD_some, if_true, true_and, and_true, Nat.reduceAdd, Nat.reduceSub, reduceIte, Bool.false_eq_true, Bool.not_true, Bool.not_false, hb2, hg, hw0]
        have hJ2 : J (acc ++ if PyData.eqv (l[((r + (t : Int)) % (l.length : Int)).toNat]?.getD .none) (m[r]?.getD .none) = true then [PyData.int r] else []) := hJ
        rw [hk, Int.toNat_natCast, ha, hb2, ev_int] at hJ2
        clear hJ
        have hJ := hJ2
        by_cases c : a = b
        · simp [c] at hJ ⊢; exact hJ
        · simp [c] at hJ ⊢; exact hJ
      · have len : (List.flatMap (fun (d : D) => match d with | .tuple [.int r, v] => if PyData.eqv (l[((r + (t : Int)) % (l.length : Int)).toNat]?.getD .none) v = true then [(.int r : D)] else [] | _ => []) (List.map (fun r => (.tuple [.int (r : Nat), m[r]?.getD .none] : D)) (askL m))).length = cnt l m t := by
          rw [List.flatMap_map]
          rw [show (fun (a : Nat) => (match (PyData.tuple [.int (a : Nat), m[a]?.getD .none] : D) with | .tuple [.int r, v] => if PyData.eqv (l[((r + (t : Int)) % (l.length : Int)).toNat]?.getD .none) v = true then [(.int r : D)] else [] | _ => [])) = fun (a : Nat) => if PyData.eqv (l[(a + t) % l.length]?.getD .none) (m[a]?.getD .none) = true then [(.int a : D)] else [] from by
            funext a
            have hk : ((a : Int) + t) % (l.length : Int) = (((a + t) % l.length : Nat) : Int) := by push_cast; rfl
            show (if PyData.eqv (l[(((a : Int) + (t : Int)) % (l.length : Int)).toNat]?.getD .none) _ = true then _ else _) = _
            rw [hk, Int.toNat_natCast]]
          rw [flat_if, List.length_map]
          unfold cnt askL hit
          rw [List.filter_filter, ew]
          congr 2
          funext a
          rw [Bool.and_comm]
        simp only [vw_jk, at_0, at_1, at_2, at_3, at_4, ix_40, ix_41, ix_42, ix_43, boolsD_comp, intsD_comp, sh_int, sh_bool, sh_none, sh_str, ev_int, ev_bool, ev_str, ev_none, ev_ni, ev_in, uIfS, evT, ev, uRet, uRetO, uRetN, uDrop, uSet, uSetO, uMove, uFrz, uNext, uBreak, uCont, uApp, uIns, uPut, uPutA, uAug, uRaise, uVar, uC, uOp, uUn, uTru, uTst, uNot, uAnd, uOr, uAndV, uOrV, uNotV, uIf, uNil, uCons, argU, uTup, uLst, allD, onDs, onD, onT, onBool, oI, oIC, oAdd, oEq, oIsN, isN_none, isN_int, isN_bool, isN_str, isN_list, isN_tup, truD, oIx, uSl, uPart, uNoP, oSl, uCB, oLen, oList, oTuple, oInt, oAbs, oAll, oAny, oSum, onB, onI, uIs, uIs2, isT, uCall, uCallP, pick, vw, vw1, okU, okX, nolU, nol, nols, startU, kOf, kQ, kT, onL, uSeqI, uRng1, uRng2, rOk, uEnum, uRep, uTupRev, uYes, ugN, ugT2, wipeU, setU, uIfQ, uRetQ, uSetQ, uPutQ, ixC, szD, List.map_cons, List.map_nil, List.length_cons, List.length_nil, List.replicate, List.cons_append, List.nil_append, List.getElem?_cons_zero, List.getElem?_cons_succ, List.set_cons_zero, List.set_cons_succ, Option.map_some, Option.map_none, List.getD, Option.getD_some, if_true, true_and, and_true, Nat.reduceAdd, Nat.reduceSub, reduceIte, Bool.false_eq_true, Bool.not_true, Bool.not_false]
        refine ⟨lt_line' (by omega), ?_⟩
        rw [len, List.range_succ, List.map_append]
        rfl
    · obtain ⟨o, rfl⟩ := hs
      rw [hN4]
      simp [vw_jk, at_0, at_1, at_2, at_3, at_4, ix_40, ix_41, ix_42, ix_43, boolsD_comp, intsD_comp, sh_int, sh_bool, sh_none, sh_str, ev_int, ev_bool, ev_str, ev_none, ev_ni, ev_in, uIfS, evT, ev, uRet, uRetO, uRetN, uDrop, uSet, uSetO, uMove, uFrz, uNext, uBreak, uCont, uApp, uIns, uPut, uPutA, uAug, uRaise, uVar, uC, uOp, uUn, uTru, uTst, uNot, uAnd, uOr, uAndV, uOrV, uNotV, uIf, uNil, uCons, argU, uTup, uLst, allD, onDs, onD, onT, onBool, oI, oIC, oAdd, oEq, oIsN, isN_none, isN_int, isN_bool, isN_str, isN_list, isN_tup, truD, oIx, uSl, uPart, uNoP, oSl, uCB, oLen, oList, oTuple, oInt, oAbs, oAll, oAny, oSum, onB, onI, uIs, uIs2, isT, uCall, uCallP, pick, vw, vw1, okU, okX, nolU, nol, nols, startU, kOf, kQ, kT, onL, uSeqI, uRng1, uRng2, rOk, uEnum, uRep, uTupRev, uYes, ugN, ugT2, wipeU, setU, uIfQ, uRetQ, uSetQ, uPutQ, ixC, szD, List.map_cons, List.map_nil, List.length_cons, List.length_nil, List.replicate, List.cons_append, List.nil_append, List.getElem?_cons_zero, List.getElem?_cons_succ, List.set_cons_zero, List.set_cons_succ, Option.map_some, Option.map_none, List.getD, Option.getD_some, if_true, true_and, and_true, Nat.reduceAdd, Nat.reduceSub, reduceIte, Bool.false_eq_true, Bool.not_true, Bool.not_false, rngD_len, hw]
      exact ⟨nols_map _ (fun _ => rfl) _, q⟩
theorem sc_matches : FnScope ["wheel", "one", "pattern", "counts", "asked", "value", "t", "many"] ["wheel", "one", "pattern"] (defScope s_matches) := ⟨rfl, rfl, rfl, by decide +kernel, rfl, by decide +kernel, by decide +kernel⟩
def askN (m : List D) : Nat := (m.filter fun v => !isN v).length
/-- the turns at which all places agree -/
def mat (l m : List D) : List D := ((List.range l.length).filter fun t => cnt l m t == askN m).map fun (t : Nat) => .int t
def fn_matches (K : Fr) : Fn := fun as P PX => ∃ w x y, as = [.d (.int w), .d x, .d y] ∧ refusals K w x y PX ∧ ∀ l m, x = .tuple l → y = .tuple m → (l.length : Int) = w → (m.length : Int) = w → allI l = true → allN m = true → P (.d (.tuple (mat l m)))
theorem agr_get {l m : List D} {t : Nat} (h : t < l.length) : (agr l m)[t]?.getD .none = .int (cnt l m t) := by
  unfold agr
  rw [List.getElem?_map, List.getElem?_range h]
  rfl
theorem agr_len (l m : List D) : (agr l m).length = l.length := by unfold agr; simp
theorem has_matches (T : Tk P K mg) {fd_agreements : FuncData} (h_agreements : Has P w K mg base 4 "agreements" s_agreements ["wheel", "one", "pattern"] (fn_agreements K) fd_agreements) : ∃ fd, Has P w K mg base 5 "matches" s_matches ["wheel", "one", "pattern"] (fn_matches K) fd := by
  obtain ⟨fd, F⟩ := T.f_matches
  have hb := F.binds (ps := ["wheel", "one", "pattern"]) fun _ _ _ _ _ _ us hl => match us, hl with | [_, _, _], _ => rfl
  refine ⟨fd, T.g_matches, F.kp, F, hb, fnD F sc_matches (by decide) fun cdv A outer s H E hr => ⟨_, _, (dss_cons (ds_set false 3 (de_own h_agreements ⟨rfl, rfl, rfl, rfl, rfl⟩ (hr.mono (by decide)) rfl airD (da_cons (dv 0) (da_cons (dv 1) (da_cons (dv 2) da_nil)))) sc_matches.nd)
    (dss_cons (ds_set false 4 (de_callB (dc_lenk (KK := K)) rfl T.n_len bt_len (da_cons (de_lc rfl sc_matches.nd (own := [("value", 5)]) (di_seqk (KK := K) (dv 2)) (blk_of (by kernel_rfl)) (fun _ _ _ _ _ => (dg_name 5 sc_matches.nd)) (fun _ _ _ _ _ => (dts_one (dt_cmp do_notN (dv 5) de_non))) (fun _ _ _ _ _ => (dv 5))) da_nil)) sc_matches.nd)
    (dss_one (ds_ret false (de_callTy (dc_tuplek (KK := K)) rfl T.n_tuple bt_tuple (da_cons (de_lc rfl sc_matches.nd (own := [("t", 6), ("many", 7)]) (di_enumk (KK := K) (dv 3) rfl T.n_enumerate) (blk_of (by kernel_rfl)) (fun _ _ _ _ _ => (dg_tup2k (KK := K) 6 7 rfl sc_matches.nd)) (fun _ _ _ _ _ => (dts_one (dt_cmp (do_eqk (KK := K) hr.units) (dv 7) (dv 4)))) (fun _ _ _ _ _ => (dv 6))) da_nil)))))), ?_⟩⟩
  rintro as Q PX hl ⟨w, x, y, rfl, hr, h3⟩
  refine i_seq fun N hN => ?_
  simp [vw_jk, at_0, at_1, at_2, at_3, at_4, ix_40, ix_41, ix_42, ix_43, boolsD_comp, intsD_comp, sh_int, sh_bool, sh_none, sh_str, ev_int, ev_bool, ev_str, ev_none, ev_ni, ev_in, uIfS, evT, ev, uRet, uRetO, uRetN, uDrop, uSet, uSetO, uMove, uFrz, uNext, uBreak, uCont, uApp, uIns, uPut, uPutA, uAug, uRaise, uVar, uC, uOp, uUn, uTru, uTst, uNot, uAnd, uOr, uAndV, uOrV, uNotV, uIf, uNil, uCons, argU, uTup, uLst, allD, onDs, onD, onT, onBool, oI, oIC, oAdd, oEq, oIsN, isN_none, isN_int, isN_bool, isN_str, isN_list, isN_tup, truD, oIx, uSl, uPart, uNoP, oSl, uCB, oLen, oList, oTuple, oInt, oAbs, oAll, oAny, oSum, onB, onI, uIs, uIs2, isT, uCall, uCallP, pick, vw, vw1, okU, okX, nolU, nol, nols, startU, kOf, kQ, kT, onL, uSeqI, uRng1, uRng2, rOk, uEnum, uRep, uTupRev, uYes, ugN, ugT2, wipeU, setU, uIfQ, uRetQ, uSetQ, uPutQ, ixC, szD, List.map_cons, List.map_nil, List.length_cons, List.length_nil, List.replicate, List.cons_append, List.nil_append, List.getElem?_cons_zero, List.getElem?_cons_succ, List.set_cons_zero, List.set_cons_succ, Option.map_some, Option.map_none, List.getD, Option.getD_some, if_true, true_and, and_true, Nat.reduceAdd, Nat.reduceSub, reduceIte, Bool.false_eq_true, Bool.not_true, Bool.not_false]
  refine ⟨w, x, y, rfl, ⟨hr.1, hr.2.1, fun z => hr.2.2.1 z, fun z z' => hr.2.2.2 z z'⟩, fun l m ex ey el em al am => ?_⟩
  subst ex ey
  have q := h3 l m rfl rfl el em al am
  have sx : l.length ≤ 16777216 := hr.1
  have sy : m.length ≤ 16777216 := hr.2.1
  simp [vw_jk, at_0, at_1, at_2, at_3, at_4, ix_40, ix_41, ix_42, ix_43, boolsD_comp, intsD_comp, sh_int, sh_bool, sh_none, sh_str, ev_int, ev_bool, ev_str, ev_none, ev_ni, ev_in, uIfS, evT, ev, uRet, uRetO, uRetN, uDrop, uSet, uSetO, uMove, uFrz, uNext, uBreak, uCont, uApp, uIns, uPut, uPutA, uAug, uRaise, uVar, uC, uOp, uUn, uTru, uTst, uNot, uAnd, uOr, uAndV, uOrV, uNotV, uIf, uNil, uCons, argU, uTup, uLst, allD, onDs, onD, onT, onBool, oI, oIC, oAdd, oEq, oIsN, isN_none, isN_int, isN_bool, isN_str, isN_list, isN_tup, truD, oIx, uSl, uPart, uNoP, oSl, uCB, oLen, oList, oTuple, oInt, oAbs, oAll, oAny, oSum, onB, onI, uIs, uIs2, isT, uCall, uCallP, pick, vw, vw1, okU, okX, nolU, nol, nols, startU, kOf, kQ, kT, onL, uSeqI, uRng1, uRng2, rOk, uEnum, uRep, uTupRev, uYes, ugN, ugT2, wipeU, setU, uIfQ, uRetQ, uSetQ, uPutQ, ixC, szD, List.map_cons, List.map_nil, List.length_cons, List.length_nil, List.replicate, List.cons_append, List.nil_append, List.getElem?_cons_zero, List.getElem?_cons_succ, List.set_cons_zero, List.set_cons_succ, Option.map_some, Option.map_none, List.getD, Option.getD_some, if_true, true_and, and_true, Nat.reduceAdd, Nat.reduceSub, reduceIte, Bool.false_eq_true, Bool.not_true, Bool.not_false]
  rw [hN]
  refine i_seq fun N2 hN2 => ?_
  simp [vw_jk, at_0, at_1, at_2, at_3, at_4, ix_40, ix_41, ix_42, ix_43, boolsD_comp, intsD_comp, sh_int, sh_bool, sh_none, sh_str, ev_int, ev_bool, ev_str, ev_none, ev_ni, ev_in, uIfS, evT, ev, uRet, uRetO, uRetN, uDrop, uSet, uSetO, uMove, uFrz, uNext, uBreak, uCont, uApp, uIns, uPut, uPutA, uAug, uRaise, uVar, uC, uOp, uUn, uTru, uTst, uNot, uAnd, uOr, uAndV, uOrV, uNotV, uIf, uNil, uCons, argU, uTup, uLst, allD, onDs, onD, onT, onBool, oI, oIC, oAdd, oEq, oIsN, isN_none, isN_int, isN_bool, isN_str, isN_list, isN_tup, truD, oIx, uSl, uPart, uNoP, oSl, uCB, oLen, oList, oTuple, oInt, oAbs, oAll, oAny, oSum, onB, onI, uIs, uIs2, isT, uCall, uCallP, pick, vw, vw1, okU, okX, nolU, nol, nols, startU, kOf, kQ, kT, onL, uSeqI, uRng1, uRng2, rOk, uEnum, uRep, uTupRev, uYes, ugN, ugT2, wipeU, setU, uIfQ, uRetQ, uSetQ, uPutQ, ixC, szD, List.map_cons, List.map_nil, List.length_cons, List.length_nil, List.replicate, List.cons_append, List.nil_append, List.getElem?_cons_zero, List.getElem?_cons_succ, List.set_cons_zero, List.set_cons_succ, Option.map_some, Option.map_none, List.getD, Option.getD_some, if_true, true_and, and_true, Nat.reduceAdd, Nat.reduceSub, reduceIte, Bool.false_eq_true, Bool.not_true, Bool.not_false]
  refine i_lc ?_
  simp [vw_jk, at_0, at_1, at_2, at_3, at_4, ix_40, ix_41, ix_42, ix_43, boolsD_comp, intsD_comp, sh_int, sh_bool, sh_none, sh_str, ev_int, ev_bool, ev_str, ev_none, ev_ni, ev_in, uIfS, evT, ev, uRet, uRetO, uRetN, uDrop, uSet, uSetO, uMove, uFrz, uNext, uBreak, uCont, uApp, uIns, uPut, uPutA, uAug, uRaise, uVar, uC, uOp, uUn, uTru, uTst, uNot, uAnd, uOr, uAndV, uOrV, uNotV, uIf, uNil, uCons, argU, uTup, uLst, allD, onDs, onD, onT, onBool, oI, oIC, oAdd, oEq, oIsN, isN_none, isN_int, isN_bool, isN_str, isN_list, isN_tup, truD, oIx, uSl, uPart, uNoP, oSl, uCB, oLen, oList, oTuple, oInt, oAbs, oAll, oAny, oSum, onB, onI, uIs, uIs2, isT, uCall, uCallP, pick, vw, vw1, okU, okX, nolU, nol, nols, startU, kOf, kQ, kT, onL, uSeqI, uRng1, uRng2, rOk, uEnum, uRep, uTupRev, uYes, ugN, ugT2, wipeU, setU, uIfQ, uRetQ, uSetQ, uPutQ, ixC, szD, List.map_cons, List.map_nil, List.length_cons, List.length_nil, List.replicate, List.cons_append, List.nil_append, List.getElem?_cons_zero, List.getElem?_cons_succ, List.set_cons_zero, List.set_cons_succ, Option.map_some, Option.map_none, List.getD, Option.getD_some, if_true, true_and, and_true, Nat.reduceAdd, Nat.reduceSub, reduceIte, Bool.false_eq_true, Bool.not_true, Bool.not_false]
  refine lc_fun (fun v => if (!isN v) = true then [v] else []) (lt_line sy) (fun i d e => ⟨_, rfl, by simp, fun acc J hJ => ?_⟩) ?_
  · simp [vw_jk, at_0, at_1, at_2, at_3, at_4, ix_40, ix_41, ix_42, ix_43, boolsD_comp, intsD_comp, sh_int, sh_bool, sh_none, sh_str, ev_int, ev_bool, ev_str, ev_none, ev_ni, ev_in, uIfS, evT, ev, uRet, uRetO, uRetN, uDrop, uSet, uSetO, uMove, uFrz, uNext, uBreak, uCont, uApp, uIns, uPut, uPutA, uAug, uRaise, uVar, uC, uOp, uUn, uTru, uTst, uNot, uAnd, uOr, uAndV, uOrV, uNotV, uIf, uNil, uCons, argU, uTup, uLst, allD, onDs, onD, onT, onBool, oI, oIC, oAdd, oEq, oIsN, isN_none, isN_int, isN_bool, isN_str, isN_list, isN_tup, truD, oIx, uSl, uPart, uNoP, oSl, uCB, oLen, oList, oTuple, oInt, oAbs, oAll, oAny, oSum, onB, onI, uIs, uIs2, isT, uCall, uCallP, pick, vw, vw1, okU, okX, nolU, nol, nols, startU, kOf, kQ, kT, onL, uSeqI, uRng1, uRng2, rOk, uEnum, uRep, uTupRev, uYes, ugN, ugT2, wipeU, setU, uIfQ, uRetQ, uSetQ, uPutQ, ixC, szD, List.map_cons, List.map_nil, List.length_cons, List.length_nil, List.replicate, List.cons_append, List.nil_append, List.getElem?_cons_zero, List.getElem?_cons_succ, List.set_cons_zero, List.set_cons_succ, Option.map_some, Option.map_none, List.getD, Option.getD_some, if_true, true_and, and_true, Nat.reduceAdd, Nat.reduceSub, reduceIte, Bool.false_eq_true, Bool.not_true, Bool.not_false] at hJ ⊢
    by_cases hn : isN d = true
    · simp [hn] at hJ ⊢; exact hJ
    · simp [hn] at hJ ⊢; exact hJ
  · have len : (m.flatMap fun v => if (!isN v) = true then [v] else []).length = askN m := by
      rw [flat_if, List.length_map]; rfl
    simp only [vw_jk, at_0, at_1, at_2, at_3, at_4, ix_40, ix_41, ix_42, ix_43, boolsD_comp, intsD_comp, sh_int, sh_bool, sh_none, sh_str, ev_int, ev_bool, ev_str, ev_none, ev_ni, ev_in, uIfS, evT, ev, uRet, uRetO, uRetN, uDrop, uSet, uSetO, uMove, uFrz, uNext, uBreak, uCont, uApp, uIns, uPut, uPutA, uAug, uRaise, uVar, uC, uOp, uUn, uTru, uTst, uNot, uAnd, uOr, uAndV, uOrV, uNotV, uIf, uNil, uCons, argU, uTup, uLst, allD, onDs, onD, onT, onBool, oI, oIC, oAdd, oEq, oIsN, isN_none, isN_int, isN_bool, isN_str, isN_list, isN_tup, truD, oIx, uSl, uPart, uNoP, oSl, uCB, oLen, oList, oTuple, oInt, oAbs, oAll, oAny, oSum, onB, onI, uIs, uIs2, isT, uCall, uCallP, pick, vw, vw1, okU, okX, nolU, nol, nols, startU, kOf, kQ, kT, onL, uSeqI, uRng1, uRng2, rOk, uEnum, uRep, uTupRev, uYes, ugN, ugT2, wipeU, setU, uIfQ, uRetQ, uSetQ, uPutQ, ixC, szD, List.map_cons, List.map_nil, List.length_cons, List.length_nil, List.replicate, List.cons_append, List.nil_append, List.getElem?_cons_zero, List.getElem?_cons_succ, List.set_cons_zero, List.set_cons_succ, Option.map_some, Option.map_none, List.getD, Option.getD_some, if_true, true_and, and_true, Nat.reduceAdd, Nat.reduceSub, reduceIte, Bool.false_eq_true, Bool.not_true, Bool.not_false]
    rw [len, hN2]
    simp [vw_jk, at_0, at_1, at_2, at_3, at_4, ix_40, ix_41, ix_42, ix_43, boolsD_comp, intsD_comp, sh_int, sh_bool, sh_none, sh_str, ev_int, ev_bool, ev_str, ev_none, ev_ni, ev_in, uIfS, evT, ev, uRet, uRetO, uRetN, uDrop, uSet, uSetO, uMove, uFrz, uNext, uBreak, uCont, uApp, uIns, uPut, uPutA, uAug, uRaise, uVar, uC, uOp, uUn, uTru, uTst, uNot, uAnd, uOr, uAndV, uOrV, uNotV, uIf, uNil, uCons, argU, uTup, uLst, allD, onDs, onD, onT, onBool, oI, oIC, oAdd, oEq, oIsN, isN_none, isN_int, isN_bool, isN_str, isN_list, isN_tup, truD, oIx, uSl, uPart, uNoP, oSl, uCB, oLen, oList, oTuple, oInt, oAbs, oAll, oAny, oSum, onB, onI, uIs, uIs2, isT, uCall, uCallP, pick, vw, vw1, okU, okX, nolU, nol, nols, startU, kOf, kQ, kT, onL, uSeqI, uRng1, uRng2, rOk, uEnum, uRep, uTupRev, uYes, ugN, ugT2, wipeU, setU, uIfQ, uRetQ, uSetQ, uPutQ, ixC, szD, List.map_cons, List.map_nil, List.length_cons, List.length_nil, List.replicate, List.cons_append, List.nil_append, List.getElem?_cons_zero, List.getElem?_cons_succ, List.set_cons_zero, List.set_cons_succ, Option.map_some, Option.map_none, List.getD, Option.getD_some, if_true, true_and, and_true, Nat.reduceAdd, Nat.reduceSub, reduceIte, Bool.false_eq_true, Bool.not_true, Bool.not_false]
    refine i_lc ?_
    simp [vw_jk, at_0, at_1, at_2, at_3, at_4, ix_40, ix_41, ix_42, ix_43, boolsD_comp, intsD_comp, sh_int, sh_bool, sh_none, sh_str, ev_int, ev_bool, ev_str, ev_none, ev_ni, ev_in, uIfS, evT, ev, uRet, uRetO, uRetN, uDrop, uSet, uSetO, uMove, uFrz, uNext, uBreak, uCont, uApp, uIns, uPut, uPutA, uAug, uRaise, uVar, uC, uOp, uUn, uTru, uTst, uNot, uAnd, uOr, uAndV, uOrV, uNotV, uIf, uNil, uCons, argU, uTup, uLst, allD, onDs, onD, onT, onBool, oI, oIC, oAdd, oEq, oIsN, isN_none, isN_int, isN_bool, isN_str, isN_list, isN_tup, truD, oIx, uSl, uPart, uNoP, oSl, uCB, oLen, oList, oTuple, oInt, oAbs, oAll, oAny, oSum, onB, onI, uIs, uIs2, isT, uCall, uCallP, pick, vw, vw1, okU, okX, nolU, nol, nols, startU, kOf, kQ, kT, onL, uSeqI, uRng1, uRng2, rOk, uEnum, uRep, uTupRev, uYes, ugN, ugT2, wipeU, setU, uIfQ, uRetQ, uSetQ, uPutQ, ixC, szD, List.map_cons, List.map_nil, List.length_cons, List.length_nil, List.replicate, List.cons_append, List.nil_append, List.getElem?_cons_zero, List.getElem?_cons_succ, List.set_cons_zero, List.set_cons_succ, Option.map_some, Option.map_none, List.getD, Option.getD_some, if_true, true_and, and_true, Nat.reduceAdd, Nat.reduceSub, reduceIte, Bool.false_eq_true, Bool.not_true, Bool.not_false]
    rw [enD_range, agr_len]
    refine lc_fun (fun d => match d with | .tuple [.int t, .int c] => if (c == (askN m : Int)) = true then [.int t] else [] | _ => []) ?_ (fun i d e => ?_) ?_
    · simp; exact lt_line sx
    · rw [List.getElem?_map] at e
      obtain ⟨t, e1, rfl⟩ := Option.map_eq_some_iff.mp e
      obtain ⟨rfl, ht⟩ := get_rng e1
      refine ⟨_, rfl, by simp, fun acc J hJ => ?_⟩
      rw [agr_get ht] at hJ ⊢
      simp [vw_jk, at_0, at_1, at_2, at_3, at_4, ix_40, ix_41, ix_42, ix_43, boolsD_comp, intsD_comp, sh_int, sh_bool, sh_none, sh_str, ev_int, ev_bool, ev_str, ev_none, ev_ni, ev_in, uIfS, evT, ev, uRet, uRetO, uRetN, uDrop, uSet, uSetO, uMove, uFrz, uNext, uBreak, uCont, uApp, uIns, uPut, uPutA, uAug, uRaise, uVar, uC, uOp, uUn, uTru, uTst, uNot, uAnd, uOr, uAndV, uOrV, uNotV, uIf, uNil, uCons, argU, uTup, uLst, allD, onDs, onD, onT, onBool, oI, oIC, oAdd, oEq, oIsN, isN_none, isN_int, isN_bool, isN_str, isN_list, isN_tup, truD, oIx, uSl, uPart, uNoP, oSl, uCB, oLen, oList, oTuple, oInt, oAbs, oAll, oAny, oSum, onB, onI, uIs, uIs2, isT, uCall, uCallP, pick, vw, vw1, okU, okX, nolU, nol, nols, startU, kOf, kQ, kT, onL, uSeqI, uRng1, uRng2, rOk, uEnum, uRep, uTupRev, uYes, ugN, ugT2, wipeU, setU, uIfQ, uRetQ, uSetQ, uPutQ, ixC, szD, List.map_cons, List.map_nil, List.length_cons, List.length_nil, List.replicate, List.cons_append, List.nil_append, List.getElem?_cons_zero, List.getElem?_cons_succ, List.set_cons_zero, List.set_cons_succ, Option.map_some, Option.map_none, List.getD, Option.getD_some, if_true, true_and, and_true, Nat.reduceAdd, Nat.reduceSub, reduceIte, Bool.false_eq_true, Bool.not_true, Bool.not_false] at hJ ⊢
      split
      · next z => rw [if_pos z] at hJ; exact hJ
      · next z => rw [if_neg z] at hJ; simpa using hJ
    · have e : (List.flatMap (fun (d : D) => match d with | .tuple [.int t, .int c] => if (c == (askN m : Int)) = true then [(.int t : D)] else [] | _ => []) ((List.range l.length).map fun i => .tuple [.int (i : Nat), (agr l m)[i]?.getD .none])) = mat l m := by
        rw [List.flatMap_map]
        have : ∀ n, n ≤ l.length → (List.range n).flatMap (fun (a : Nat) => (match (PyData.tuple [.int (a : Nat), (agr l m)[a]?.getD .none] : D) with | .tuple [.int t, .int c] => if (c == (askN m : Int)) = true then [(.int t : D)] else [] | _ => [])) = ((List.range n).filter fun t => cnt l m t == askN m).map fun (t : Nat) => .int t := fun n => by
          induction n with
          | zero => intro _; rfl
          | succ n ih =>
            intro hn
            rw [List.range_succ, List.flatMap_append, ih (by omega), List.filter_append, List.map_append]
            congr 1
            simp only [List.flatMap_cons, List.flatMap_nil, List.append_nil]
            rw [agr_get (by omega)]
            by_cases c : cnt l m n = askN m
            · simp [c]
            · simp [c]; omega
        exact this _ (Nat.le_refl _)
      rw [e]
      simp only [vw_jk, at_0, at_1, at_2, at_3, at_4, ix_40, ix_41, ix_42, ix_43, boolsD_comp, intsD_comp, sh_int, sh_bool, sh_none, sh_str, ev_int, ev_bool, ev_str, ev_none, ev_ni, ev_in, uIfS, evT, ev, uRet, uRetO, uRetN, uDrop, uSet, uSetO, uMove, uFrz, uNext, uBreak, uCont, uApp, uIns, uPut, uPutA, uAug, uRaise, uVar, uC, uOp, uUn, uTru, uTst, uNot, uAnd, uOr, uAndV, uOrV, uNotV, uIf, uNil, uCons, argU, uTup, uLst, allD, onDs, onD, onT, onBool, oI, oIC, oAdd, oEq, oIsN, isN_none, isN_int, isN_bool, isN_str, isN_list, isN_tup, truD, oIx, uSl, uPart, uNoP, oSl, uCB, oLen, oList, oTuple, oInt, oAbs, oAll, oAny, oSum, onB, onI, uIs, uIs2, isT, uCall, uCallP, pick, vw, vw1, okU, okX, nolU, nol, nols, startU, kOf, kQ, kT, onL, uSeqI, uRng1, uRng2, rOk, uEnum, uRep, uTupRev, uYes, ugN, ugT2, wipeU, setU, uIfQ, uRetQ, uSetQ, uPutQ, ixC, szD, List.map_cons, List.map_nil, List.length_cons, List.length_nil, List.replicate, List.cons_append, List.nil_append, List.getElem?_cons_zero, List.getElem?_cons_succ, List.set_cons_zero, List.set_cons_succ, Option.map_some, Option.map_none, List.getD, Option.getD_some, if_true, true_and, and_true, Nat.reduceAdd, Nat.reduceSub, reduceIte, Bool.false_eq_true, Bool.not_true, Bool.not_false]
      exact q
theorem sc_throws_of : FnScope ["wheel", "faces", "times", "face", "counts", "_", "behind", "place", "many"] ["wheel", "faces", "times"] (defScope s_throws_of) := ⟨rfl, rfl, rfl, by decide +kernel, rfl, by decide +kernel, by decide +kernel⟩
def goodFaces (n : Nat) (x : D) : Prop := ∃ fs : List Nat, x = .tuple (fs.map fun (f : Nat) => .int f) ∧ fs ≠ [] ∧ ∀ f ∈ fs, f < n
def fn_throws_of (K : Fr) : Fn := fun as P PX => ∃ (n : Nat) (x y : D), as = [.d (.int n), .d x, .d y] ∧ 0 < n ∧ n ≤ 1000 ∧ sml x ∧ (∀ i : Int, y = .int i → i ≤ 1000) ∧ (¬ goodFaces n x → PX (refused K "faces")) ∧ (goodFaces n x → isNb y = false → PX (refused K "times")) ∧
  ∀ (fs : List Nat) (t : Nat), x = .tuple (fs.map fun (f : Nat) => .int f) → fs ≠ [] → (∀ f ∈ fs, f < n) → y = .int t → t ≤ 1000 → P (.d (.tuple (tab n (hs n (pw fs t)))))
theorem tab_one {n : Nat} (h0 : 0 < n) : [PyData.int 1] ++ repD [.int 0] (n - 1) = tab n (hs n [0]) := by
  refine List.ext_getElem? fun j => ?_
  have len : ([PyData.int 1] ++ repD [.int 0] (n - 1)).length = n := by unfold repD; simp; omega
  by_cases hj : j < n
  · rw [tab_get hj]
    have e : hs n [0] j = if j = 0 then 1 else 0 := by
      unfold hs
      rw [sm_cons, sm_nil, Nat.zero_mod]
      unfold ind
      by_cases c : j = 0
      · subst c; rfl
      · rw [if_neg (fun z => c z.symm), if_neg c]; rfl
    rw [e]
    cases j with
    | zero => rfl
    | succ j =>
      unfold repD
      simp
      rw [List.getElem?_replicate, if_pos (by omega)]
  · rw [List.getElem?_eq_none (by omega), List.getElem?_eq_none (by rw [tab_len]; omega)]
theorem tab_nil {n : Nat} : repD [.int 0] n = tab n fun _ => 0 := by
  refine List.ext_getElem? fun j => ?_
  have len : (repD [.int 0] n).length = n := by unfold repD; simp
  by_cases hj : j < n
  · rw [tab_get hj]
    unfold repD
    simp
    rw [List.getElem?_replicate, if_pos hj]
  · rw [List.getElem?_eq_none (by omega), List.getElem?_eq_none (by rw [tab_len]; omega)]
/-- what is added at one place -/
theorem tab_add {n k : Nat} {g : Nat → Int} {v : Int} (h : k < n) : (tab n g).set k (.int (g k + v)) = tab n fun j => g j + v * ind (k = j) := by
  rw [tab_set h]
  refine tab_congr fun j _ => ?_
  unfold ind
  by_cases c : j = k
  · subst c; rw [if_pos rfl, if_pos rfl, Int.mul_one]
  · rw [if_neg c, if_neg (fun z => c z.symm), Int.mul_zero, Int.add_zero]
theorem sm_take {α : Type} {l : List α} {i : Nat} {x : α} (h : l[i]? = some x) (f : α → Int) : sm (l.take (i + 1)) f = sm (l.take i) f + f x := by
  rw [List.take_succ, h, sm_app]
  show _ + sm [x] f = _
  rw [sm_cons, sm_nil]; omega
theorem has_throws_of (T : Tk P K mg) {fd_is_number : FuncData} (h_is_number : Has P w K mg base 2 "is_number" s_is_number ["thing"] fn_is_number fd_is_number) : ∃ fd, Has P w K mg base 3 "throws_of" s_throws_of ["wheel", "faces", "times"] (fn_throws_of K) fd := by
  obtain ⟨fd, F⟩ := T.f_throws_of
  have hb := F.binds (ps := ["wheel", "faces", "times"]) fun _ _ _ _ _ _ us hl => match us, hl with | [_, _, _], _ => rfl
  refine ⟨fd, T.g_throws_of, F.kp, F, hb, fnD F sc_throws_of (by decide) fun cdv A outer s H E hr => ⟨_, _, (dss_cons (ds_if false (DW.dt (dw_or (dt_not (dt_truk (KK := K) (de_isk (KK := K) .tup (dv 1) rfl T.n_isinstance bt_isi rfl T.n_tuple bt_tuple))) (dw_or1 (dt_cmp (do_eqk (KK := K) hr.units) (de_callB (dc_lenk (KK := K)) rfl T.n_len bt_len (da_cons (dv 1) da_nil)) de_int)))) (dss_one (ds_raise rfl T.x_NotUsable T.g_NotUsable T.n_super (k := 0) (hr.mono (by decide)) tkD (da_cons de_str (da_cons (de_un du_neg de_int) da_nil)) rfl)) dss_nil)
    (dss_cons (ds_if false (dt_not (dt_truk (KK := K) (de_callB (dc_allk (KK := K) rfl) rfl T.n_all bt_all (da_cons (de_lc rfl sc_throws_of.nd (own := [("face", 3)]) (di_seqk (KK := K) (dv 1)) (blk_of (by kernel_rfl)) (fun _ _ _ _ _ => (dg_name 3 sc_throws_of.nd)) (fun _ _ _ _ _ => dts_nil) (fun _ _ _ _ _ => (de_andk (KK := K) (de_own h_is_number ⟨rfl, rfl, rfl, rfl, rfl⟩ (hr.mono (by decide)) rfl air0 (da_cons (dv 3) da_nil)) (de_one (de_cmp do_lt (dv 3) (dv 0)))))) da_nil)))) (dss_one (ds_raise rfl T.x_NotUsable T.g_NotUsable T.n_super (k := 0) (hr.mono (by decide)) tkD (da_cons de_str (da_cons (de_un du_neg de_int) da_nil)) rfl)) dss_nil)
    (dss_cons (ds_if false (dt_not (dt_truk (KK := K) (de_own h_is_number ⟨rfl, rfl, rfl, rfl, rfl⟩ (hr.mono (by decide)) rfl airD (da_cons (dv 2) da_nil)))) (dss_one (ds_raise rfl T.x_NotUsable T.g_NotUsable T.n_super (k := 0) (hr.mono (by decide)) tkD (da_cons de_str (da_cons (de_un du_neg de_int) da_nil)) rfl)) dss_nil)
    (dss_cons (ds_set false 4 (de_op (do_addk (KK := K)) (de_lst (da_cons de_int da_nil)) (de_rep (de_lst (da_cons de_int da_nil)) (de_op do_sub (dv 0) de_int))) sc_throws_of.nd)
    (dss_cons (ds_for poD rfl (di_rng1 (dv 2) rfl T.n_range) (dg_name 5 sc_throws_of.nd) (dss_cons (ds_setO false 6 (de_rep (de_lst (da_cons de_int da_nil)) (dv 0)) sc_throws_of.nd)
    (dss_cons (ds_for poD rfl (di_seqk (KK := K) (dv 1)) (dg_name 3 sc_throws_of.nd) (dss_one (ds_for poD rfl (di_enumk (KK := K) (dv 4) rfl T.n_enumerate) (dg_tup2k (KK := K) 7 8 rfl sc_throws_of.nd) (dss_one (ds_putAk (KK := K) false 6 dip_add (de_op do_mod (de_op (do_addk (KK := K)) (dv 7) (dv 3)) (dv 0)) (dv 8))))))
    (dss_frz 6 (dss_one (ds_set false 4 (dv 6) sc_throws_of.nd))))))
    (dss_one (ds_ret false (de_callTy (dc_tuplek (KK := K)) rfl T.n_tuple bt_tuple (da_cons (dv 4) da_nil))))))))), ?_⟩⟩
  rintro as Q PX hl ⟨n, x, y, rfl, h0, hn, sx, hty, h1, h2, h3⟩
  have r1 : ¬ goodFaces n x → PX ⟨He.ga K "NotUsable", [(("at" : Str), .int (-1)), (("word" : Str), .str "faces")]⟩ := h1
  have r2 : goodFaces n x → isNb y = false → PX ⟨He.ga K "NotUsable", [(("at" : Str), .int (-1)), (("word" : Str), .str "times")]⟩ := h2
  refine i_seq fun N hN => ?_
  have step2 : ∀ l, x = .tuple l → l ≠ [] → l.length ≤ 16777216 → N [some (.d (.int n)), some (.d x), some (.d y), none, none, none, none, none, none] := fun l ex el es => by
    subst ex
    rw [hN]
    refine i_seq fun N2 hN2 => ?_
    have step3 : ∀ fs : List Nat, l = (fs.map fun (f : Nat) => .int f) → (∀ f ∈ fs, f < n) → N2 [some (.d (.int n)), some (.d (.tuple l)), some (.d y), none, none, none, none, none, none] := fun fs el2 hf => by
      rw [hN2]
      refine i_seq fun N3 hN3 => ?_
      have hfe : fs ≠ [] := fun z => by rw [z] at el2; exact el el2
      simp [vw_jk, at_0, at_1, at_2, at_3, at_4, ix_40, ix_41, ix_42, ix_43, boolsD_comp, intsD_comp, sh_int, sh_bool, sh_none, sh_str, ev_int, ev_bool, ev_str, ev_none, ev_ni, ev_in, uIfS, evT, ev, uRet, uRetO, uRetN, uDrop, uSet, uSetO, uMove, uFrz, uNext, uBreak, uCont, uApp, uIns, uPut, uPutA, uAug, uRaise, uVar, uC, uOp, uUn, uTru, uTst, uNot, uAnd, uOr, uAndV, uOrV, uNotV, uIf, uNil, uCons, argU, uTup, uLst, allD, onDs, onD, onT, onBool, oI, oIC, oAdd, oEq, oIsN, isN_none, isN_int, isN_bool, isN_str, isN_list, isN_tup, truD, oIx, uSl, uPart, uNoP, oSl, uCB, oLen, oList, oTuple, oInt, oAbs, oAll, oAny, oSum, onB, onI, uIs, uIs2, isT, uCall, uCallP, pick, vw, vw1, okU, okX, nolU, nol, nols, startU, kOf, kQ, kT, onL, uSeqI, uRng1, uRng2, rOk, uEnum, uRep, uTupRev, uYes, ugN, ugT2, wipeU, setU, uIfQ, uRetQ, uSetQ, uPutQ, ixC, szD, List.map_cons, List.map_nil, List.length_cons, List.length_nil, List.replicate, List.cons_append, List.nil_append, List.getElem?_cons_zero, List.getElem?_cons_succ, List.set_cons_zero, List.set_cons_succ, Option.map_some, Option.map_none, List.getD, Option.getD_some, if_true, true_and, and_true, Nat.reduceAdd, Nat.reduceSub, reduceIte, Bool.false_eq_true, Bool.not_true, Bool.not_false]
      refine ⟨y, rfl, ?_⟩
      simp [vw_jk, at_0, at_1, at_2, at_3, at_4, ix_40, ix_41, ix_42, ix_43, boolsD_comp, intsD_comp, sh_int, sh_bool, sh_none, sh_str, ev_int, ev_bool, ev_str, ev_none, ev_ni, ev_in, uIfS, evT, ev, uRet, uRetO, uRetN, uDrop, uSet, uSetO, uMove, uFrz, uNext, uBreak, uCont, uApp, uIns, uPut, uPutA, uAug, uRaise, uVar, uC, uOp, uUn, uTru, uTst, uNot, uAnd, uOr, uAndV, uOrV, uNotV, uIf, uNil, uCons, argU, uTup, uLst, allD, onDs, onD, onT, onBool, oI, oIC, oAdd, oEq, oIsN, isN_none, isN_int, isN_bool, isN_str, isN_list, isN_tup, truD, oIx, uSl, uPart, uNoP, oSl, uCB, oLen, oList, oTuple, oInt, oAbs, oAll, oAny, oSum, onB, onI, uIs, uIs2, isT, uCall, uCallP, pick, vw, vw1, okU, okX, nolU, nol, nols, startU, kOf, kQ, kT, onL, uSeqI, uRng1, uRng2, rOk, uEnum, uRep, uTupRev, uYes, ugN, ugT2, wipeU, setU, uIfQ, uRetQ, uSetQ, uPutQ, ixC, szD, List.map_cons, List.map_nil, List.length_cons, List.length_nil, List.replicate, List.cons_append, List.nil_append, List.getElem?_cons_zero, List.getElem?_cons_succ, List.set_cons_zero, List.set_cons_succ, Option.map_some, Option.map_none, List.getD, Option.getD_some, if_true, true_and, and_true, Nat.reduceAdd, Nat.reduceSub, reduceIte, Bool.false_eq_true, Bool.not_true, Bool.not_false]
      by_cases hy : isNb y = true
      · simp [hy]
        obtain ⟨t, rfl⟩ : ∃ t : Nat, y = .int t := by
          cases y with
          | int i =>
            have : decide (0 ≤ i) = true := hy
            simp at this
            exact ⟨i.toNat, by congr 1; omega⟩
          | _ => cases hy
        have ht := hty _ rfl
        have fin := h3 fs t (by rw [el2]) hfe hf rfl (by omega)
        rw [hN3]
        refine i_seq fun N4 hN4 => ?_
        simp [vw_jk, at_0, at_1, at_2, at_3, at_4, ix_40, ix_41, ix_42, ix_43, boolsD_comp, intsD_comp, sh_int, sh_bool, sh_none, sh_str, ev_int, ev_bool, ev_str, ev_none, ev_ni, ev_in, uIfS, evT, ev, uRet, uRetO, uRetN, uDrop, uSet, uSetO, uMove, uFrz, uNext, uBreak, uCont, uApp, uIns, uPut, uPutA, uAug, uRaise, uVar, uC, uOp, uUn, uTru, uTst, uNot, uAnd, uOr, uAndV, uOrV, uNotV, uIf, uNil, uCons, argU, uTup, uLst, allD, onDs, onD, onT, onBool, oI, oIC, oAdd, oEq, oIsN, isN_none, isN_int, isN_bool, isN_str, isN_list, isN_tup, truD, oIx, uSl, uPart, uNoP, oSl, uCB, oLen, oList, oTuple, oInt, oAbs, oAll, oAny, oSum, onB, onI, uIs, uIs2, isT, uCall, uCallP, pick, vw, vw1, okU, okX, nolU, nol, nols, startU, kOf, kQ, kT, onL, uSeqI, uRng1, uRng2, rOk, uEnum, uRep, uTupRev, uYes, ugN, ugT2, wipeU, setU, uIfQ, uRetQ, uSetQ, uPutQ, ixC, szD, List.map_cons, List.map_nil, List.length_cons, List.length_nil, List.replicate, List.cons_append, List.nil_append, List.getElem?_cons_zero, List.getElem?_cons_succ, List.set_cons_zero, List.set_cons_succ, Option.map_some, Option.map_none, List.getD, Option.getD_some, if_true, true_and, and_true, Nat.reduceAdd, Nat.reduceSub, reduceIte, Bool.false_eq_true, Bool.not_true, Bool.not_false]
        refine ⟨by decide, by omega, by omega, by have := lt_line (n := n) (by omega); omega, lt_line (by unfold repD; simp; omega), ?_⟩
        rw [show (PyData.int 1 :: repD [.int 0] (n - 1)) = tab n (hs n [0]) from tab_one h0]
        rw [hN4]
        refine i_seq fun N5 hN5 => ?_
        refine i_for ?_
        simp [vw_jk, at_0, at_1, at_2, at_3, at_4, ix_40, ix_41, ix_42, ix_43, boolsD_comp, intsD_comp, sh_int, sh_bool, sh_none, sh_str, ev_int, ev_bool, ev_str, ev_none, ev_ni, ev_in, uIfS, evT, ev, uRet, uRetO, uRetN, uDrop, uSet, uSetO, uMove, uFrz, uNext, uBreak, uCont, uApp, uIns, uPut, uPutA, uAug, uRaise, uVar, uC, uOp, uUn, uTru, uTst, uNot, uAnd, uOr, uAndV, uOrV, uNotV, uIf, uNil, uCons, argU, uTup, uLst, allD, onDs, onD, onT, onBool, oI, oIC, oAdd, oEq, oIsN, isN_none, isN_int, isN_bool, isN_str, isN_list, isN_tup, truD, oIx, uSl, uPart, uNoP, oSl, uCB, oLen, oList, oTuple, oInt, oAbs, oAll, oAny, oSum, onB, onI, uIs, uIs2, isT, uCall, uCallP, pick, vw, vw1, okU, okX, nolU, nol, nols, startU, kOf, kQ, kT, onL, uSeqI, uRng1, uRng2, rOk, uEnum, uRep, uTupRev, uYes, ugN, ugT2, wipeU, setU, uIfQ, uRetQ, uSetQ, uPutQ, ixC, szD, List.map_cons, List.map_nil, List.length_cons, List.length_nil, List.replicate, List.cons_append, List.nil_append, List.getElem?_cons_zero, List.getElem?_cons_succ, List.set_cons_zero, List.set_cons_succ, Option.map_some, Option.map_none, List.getD, Option.getD_some, if_true, true_and, and_true, Nat.reduceAdd, Nat.reduceSub, reduceIte, Bool.false_eq_true, Bool.not_true, Bool.not_false]
        refine ⟨by omega, fun i s' => ∃ (o5 o6 o7 o8 o9 : Option U), s' = [some (.d (.int n)), some (.d (.tuple l)), some (.d (.int t)), o5, some (.d (.list (tab n (hs n (pw fs i))))), o6, o7, o8, o9], ⟨none, none, none, none, none, rfl⟩, fun i d s' e hs' => ?_, fun s' hs' => ?_⟩
        · obtain ⟨o5, o6, o7, o8, o9, rfl⟩ := hs'
          refine i_seq fun N6 hN6 => ?_
          simp [vw_jk, at_0, at_1, at_2, at_3, at_4, ix_40, ix_41, ix_42, ix_43, boolsD_comp, intsD_comp, sh_int, sh_bool, sh_none, sh_str, ev_int, ev_bool, ev_str, ev_none, ev_ni, ev_in, uIfS, evT, ev, uRet, uRetO, uRetN, uDrop, uSet, uSetO, uMove, uFrz, uNext, uBreak, uCont, uApp, uIns, uPut, uPutA, uAug, uRaise, uVar, uC, uOp, uUn, uTru, uTst, uNot, uAnd, uOr, uAndV, uOrV, uNotV, uIf, uNil, uCons, argU, uTup, uLst, allD, onDs, onD, onT, onBool, oI, oIC, oAdd, oEq, oIsN, isN_none, isN_int, isN_bool, isN_str, isN_list, isN_tup, truD, oIx, uSl, uPart, uNoP, oSl, uCB, oLen, oList, oTuple, oInt, oAbs, oAll, oAny, oSum, onB, onI, uIs, uIs2, isT, uCall, uCallP, pick, vw, vw1, okU, okX, nolU, nol, nols, startU, kOf, kQ, kT, onL, uSeqI, uRng1, uRng2, rOk, uEnum, uRep, uTupRev, uYes, ugN, ugT2, wipeU, setU, uIfQ, uRetQ, uSetQ, uPutQ, ixC, szD, List.map_cons, List.map_nil, List.length_cons, List.length_nil, List.replicate, List.cons_append, List.nil_append, List.getElem?_cons_zero, List.getElem?_cons_succ, List.set_cons_zero, List.set_cons_succ, Option.map_some, Option.map_none, List.getD, Option.getD_some, if_true, true_and, and_true, Nat.reduceAdd, Nat.reduceSub, reduceIte, Bool.false_eq_true, Bool.not_true, Bool.not_false]
          refine ⟨by decide, by omega, lt_line (by omega), ?_⟩
          rw [tab_nil, hN6]
          refine i_seq fun N7 hN7 => ?_
          refine i_for ?_
          simp [vw_jk, at_0, at_1, at_2, at_3, at_4, ix_40, ix_41, ix_42, ix_43, boolsD_comp, intsD_comp, sh_int, sh_bool, sh_none, sh_str, ev_int, ev_bool, ev_str, ev_none, ev_ni, ev_in, uIfS, evT, ev, uRet, uRetO, uRetN, uDrop, uSet, uSetO, uMove, uFrz, uNext, uBreak, uCont, uApp, uIns, uPut, uPutA, uAug, uRaise, uVar, uC, uOp, uUn, uTru, uTst, uNot, uAnd, uOr, uAndV, uOrV, uNotV, uIf, uNil, uCons, argU, uTup, uLst, allD, onDs, onD, onT, onBool, oI, oIC, oAdd, oEq, oIsN, isN_none, isN_int, isN_bool, isN_str, isN_list, isN_tup, truD, oIx, uSl, uPart, uNoP, oSl, uCB, oLen, oList, oTuple, oInt, oAbs, oAll, oAny, oSum, onB, onI, uIs, uIs2, isT, uCall, uCallP, pick, vw, vw1, okU, okX, nolU, nol, nols, startU, kOf, kQ, kT, onL, uSeqI, uRng1, uRng2, rOk, uEnum, uRep, uTupRev, uYes, ugN, ugT2, wipeU, setU, uIfQ, uRetQ, uSetQ, uPutQ, ixC, szD, List.map_cons, List.map_nil, List.length_cons, List.length_nil, List.replicate, List.cons_append, List.nil_append, List.getElem?_cons_zero, List.getElem?_cons_succ, List.set_cons_zero, List.set_cons_succ, Option.map_some, Option.map_none, List.getD, Option.getD_some, if_true, true_and, and_true, Nat.reduceAdd, Nat.reduceSub, reduceIte, Bool.false_eq_true, Bool.not_true, Bool.not_false]
          refine ⟨fun a s' => ∃ (o3 o7 o8 : Option U), s' = [some (.d (.int n)), some (.d (.tuple l)), some (.d (.int t)), o3, some (.d (.list (tab n (hs n (pw fs i))))), some (.d d), some (.own (tab n fun j => sm (fs.take a) fun f => sm (List.range n) fun p => hs n (pw fs i) p * ind ((p + f) % n = j))), o7, o8], ⟨o5, o8, o9, rfl⟩, fun a d2 s' e2 hs2 => ?_, fun s' hs2 => ?_⟩
          · obtain ⟨o3, o7, o8, rfl⟩ := hs2
            rw [el2, List.getElem?_map] at e2
            obtain ⟨f, ef, rfl⟩ := Option.map_eq_some_iff.mp e2
            have hfn : f < n := hf f (List.mem_of_getElem? ef)
            refine i_for ?_
            simp [vw_jk, at_0, at_1, at_2, at_3, at_4, ix_40, ix_41, ix_42, ix_43, boolsD_comp, intsD_comp, sh_int, sh_bool, sh_none, sh_str, ev_int, ev_bool, ev_str, ev_none, ev_ni, ev_in, uIfS, evT, ev, uRet, uRetO, uRetN, uDrop, uSet, uSetO, uMove, uFrz, uNext, uBreak, uCont, uApp, uIns, uPut, uPutA, uAug, uRaise, uVar, uC, uOp, uUn, uTru, uTst, uNot, uAnd, uOr, uAndV, uOrV, uNotV, uIf, uNil, uCons, argU, uTup, uLst, allD, onDs, onD, onT, onBool, oI, oIC, oAdd, oEq, oIsN, isN_none, isN_int, isN_bool, isN_str, isN_list, isN_tup, truD, oIx, uSl, uPart, uNoP, oSl, uCB, oLen, oList, oTuple, oInt, oAbs, oAll, oAny, oSum, onB, onI, uIs, uIs2, isT, uCall, uCallP, pick, vw, vw1, okU, okX, nolU, nol, nols, startU, kOf, kQ, kT, onL, uSeqI, uRng1, uRng2, rOk, uEnum, uRep, uTupRev, uYes, ugN, ugT2, wipeU, setU, uIfQ, uRetQ, uSetQ, uPutQ, ixC, szD, List.map_cons, List.map_nil, List.length_cons, List.length_nil, List.replicate, List.cons_append, List.nil_append, List.getElem?_cons_zero, List.getElem?_cons_succ, List.set_cons_zero, List.set_cons_succ, Option.map_some, Option.map_none, List.getD, Option.getD_some, if_true, true_and, and_true, Nat.reduceAdd, Nat.reduceSub, reduceIte, Bool.false_eq_true, Bool.not_true, Bool.not_false]
            rw [enD_range, tab_len]
            refine ⟨fun b s' => ∃ (o7 o8 : Option U), s' = [some (.d (.int n)), some (.d (.tuple l)), some (.d (.int t)), some (.d (.int f)), some (.d (.list (tab n (hs n (pw fs i))))), some (.d d), some (.own (tab n fun j => (sm (fs.take a) fun f => sm (List.range n) fun p => hs n (pw fs i) p * ind ((p + f) % n = j)) + sm (List.range b) fun p => hs n (pw fs i) p * ind ((p + f) % n = j))), o7, o8], ⟨o7, o8, ?_⟩, fun b d3 s' e3 hs3 => ?_, fun s' hs3 => ?_⟩
            · simp [sm_nil]
            · obtain ⟨o7, o8, rfl⟩ := hs3
              rw [List.getElem?_map] at e3
              obtain ⟨p, ep, rfl⟩ := Option.map_eq_some_iff.mp e3
              obtain ⟨rfl, hp⟩ := get_rng ep
              rw [tab_get hp]
              have hk : ((p : Int) + f) % (n : Int) = (((p + f) % n : Nat) : Int) := by push_cast; rfl
              have hk2 : (p + f) % n < n := Nat.mod_lt _ h0
              have hix : ixN n (((p : Int) + f) % (n : Int)) = some ((p + f) % n) := by rw [hk]; exact ixN_nat rfl hk2
              have hn0 : (0 : Int) < n := by omega
              refine ⟨_, rfl, ?_⟩
              simp [vw_jk, at_0, at_1, at_2, at_3, at_4, ix_40, ix_41, ix_42, ix_43, boolsD_comp, intsD_comp, sh_int, sh_bool, sh_none, sh_str, ev_int, ev_bool, ev_str, ev_none, ev_ni, ev_in, uIfS, evT, ev, uRet, uRetO, uRetN, uDrop, uSet, uSetO, uMove, uFrz, uNext, uBreak, uCont, uApp, uIns, uPut, uPutA, uAug, uRaise, uVar, uC, uOp, uUn, uTru, uTst, uNot, uAnd, uOr, uAndV, uOrV, uNotV, uIf, uNil, uCons, argU, uTup, uLst, allD, onDs, onD, onT, onBool, oI, oIC, oAdd, oEq, oIsN, isN_none, isN_int, isN_bool, isN_str, isN_list, isN_tup, truD, oIx, uSl, uPart, uNoP, oSl, uCB, oLen, oList, oTuple, oInt, oAbs, oAll, oAny, oSum, onB, onI, uIs, uIs2, isT, uCall, uCallP, pick, vw, vw1, okU, okX, nolU, nol, nols, startU, kOf, kQ, kT, onL, uSeqI, uRng1, uRng2, rOk, uEnum, uRep, uTupRev, uYes, ugN, ugT2, wipeU, setU, uIfQ, uRetQ, uSetQ, uPutQ, ixC, szD, List.map_cons, List.map_nil, List.length_cons, List.length_nil, List.replicate, List.cons_append, List.nil_append, List.getElem?_cons_zero, List.getElem?_cons_succ, List.set_cons_zero, List.set_cons_succ, Option.map_some, Option.map_none, List.getD, Option.getD_some, if_true, true_and, and_true, Nat.reduceAdd, Nat.reduceSub, reduceIte, Bool.false_eq_true, Bool.not_true, Bool.not_false, hn0, tab_len, hix, tab_get hk2]
              refine ⟨h0, ?_⟩
              rw [tab_add (g := fun j => (sm (fs.take a) fun f => sm (List.range n) fun p => hs n (pw fs i) p * ind ((p + f) % n = j)) + sm (List.range p) fun p => hs n (pw fs i) p * ind ((p + f) % n = j)) (v := hs n (pw fs i) p) hk2]
              refine tab_congr fun j _ => ?_
              rw [sm_range_succ, Int.add_assoc]
            · obtain ⟨o7, o8, rfl⟩ := hs3
              simp
              rw [show (tab n fun j => _) = tab n fun j => sm (fs.take (a + 1)) fun f => sm (List.range n) fun p => hs n (pw fs i) p * ind ((p + f) % n = j) from tab_congr fun j _ => (sm_take ef _).symm]
          · obtain ⟨o3, o7, o8, rfl⟩ := hs2
            rw [hN7]
            simp [vw_jk, at_0, at_1, at_2, at_3, at_4, ix_40, ix_41, ix_42, ix_43, boolsD_comp, intsD_comp, sh_int, sh_bool, sh_none, sh_str, ev_int, ev_bool, ev_str, ev_none, ev_ni, ev_in, uIfS, evT, ev, uRet, uRetO, uRetN, uDrop, uSet, uSetO, uMove, uFrz, uNext, uBreak, uCont, uApp, uIns, uPut, uPutA, uAug, uRaise, uVar, uC, uOp, uUn, uTru, uTst, uNot, uAnd, uOr, uAndV, uOrV, uNotV, uIf, uNil, uCons, argU, uTup, uLst, allD, onDs, onD, onT, onBool, oI, oIC, oAdd, oEq, oIsN, isN_none, isN_int, isN_bool, isN_str, isN_list, isN_tup, truD, oIx, uSl, uPart, uNoP, oSl, uCB, oLen, oList, oTuple, oInt, oAbs, oAll, oAny, oSum, onB, onI, uIs, uIs2, isT, uCall, uCallP, pick, vw, vw1, okU, okX, nolU, nol, nols, startU, kOf, kQ, kT, onL, uSeqI, uRng1, uRng2, rOk, uEnum, uRep, uTupRev, uYes, ugN, ugT2, wipeU, setU, uIfQ, uRetQ, uSetQ, uPutQ, ixC, szD, List.map_cons, List.map_nil, List.length_cons, List.length_nil, List.replicate, List.cons_append, List.nil_append, List.getElem?_cons_zero, List.getElem?_cons_succ, List.set_cons_zero, List.set_cons_succ, Option.map_some, Option.map_none, List.getD, Option.getD_some, if_true, true_and, and_true, Nat.reduceAdd, Nat.reduceSub, reduceIte, Bool.false_eq_true, Bool.not_true, Bool.not_false]
            refine tab_congr fun j _ => ?_
            have hlen : l.length = fs.length := by rw [el2, List.length_map]
            rw [hlen, List.take_length]
            exact (hs_throw h0 (pw fs i) fs j).symm
        · obtain ⟨o5, o6, o7, o8, o9, rfl⟩ := hs'
          rw [rngD_len, hN5]
          simp [vw_jk, at_0, at_1, at_2, at_3, at_4, ix_40, ix_41, ix_42, ix_43, boolsD_comp, intsD_comp, sh_int, sh_bool, sh_none, sh_str, ev_int, ev_bool, ev_str, ev_none, ev_ni, ev_in, uIfS, evT, ev, uRet, uRetO, uRetN, uDrop, uSet, uSetO, uMove, uFrz, uNext, uBreak, uCont, uApp, uIns, uPut, uPutA, uAug, uRaise, uVar, uC, uOp, uUn, uTru, uTst, uNot, uAnd, uOr, uAndV, uOrV, uNotV, uIf, uNil, uCons, argU, uTup, uLst, allD, onDs, onD, onT, onBool, oI, oIC, oAdd, oEq, oIsN, isN_none, isN_int, isN_bool, isN_str, isN_list, isN_tup, truD, oIx, uSl, uPart, uNoP, oSl, uCB, oLen, oList, oTuple, oInt, oAbs, oAll, oAny, oSum, onB, onI, uIs, uIs2, isT, uCall, uCallP, pick, vw, vw1, okU, okX, nolU, nol, nols, startU, kOf, kQ, kT, onL, uSeqI, uRng1, uRng2, rOk, uEnum, uRep, uTupRev, uYes, ugN, ugT2, wipeU, setU, uIfQ, uRetQ, uSetQ, uPutQ, ixC, szD, List.map_cons, List.map_nil, List.length_cons, List.length_nil, List.replicate, List.cons_append, List.nil_append, List.getElem?_cons_zero, List.getElem?_cons_succ, List.set_cons_zero, List.set_cons_succ, Option.map_some, Option.map_none, List.getD, Option.getD_some, if_true, true_and, and_true, Nat.reduceAdd, Nat.reduceSub, reduceIte, Bool.false_eq_true, Bool.not_true, Bool.not_false]
          exact fin
      · simp [hy]
        exact ⟨_, _, ⟨rfl, rfl⟩, r2 ⟨fs, by rw [el2], hfe, hf⟩ (by simpa using hy)⟩
    simp [vw_jk, at_0, at_1, at_2, at_3, at_4, ix_40, ix_41, ix_42, ix_43, boolsD_comp, intsD_comp, sh_int, sh_bool, sh_none, sh_str, ev_int, ev_bool, ev_str, ev_none, ev_ni, ev_in, uIfS, evT, ev, uRet, uRetO, uRetN, uDrop, uSet, uSetO, uMove, uFrz, uNext, uBreak, uCont, uApp, uIns, uPut, uPutA, uAug, uRaise, uVar, uC, uOp, uUn, uTru, uTst, uNot, uAnd, uOr, uAndV, uOrV, uNotV, uIf, uNil, uCons, argU, uTup, uLst, allD, onDs, onD, onT, onBool, oI, oIC, oAdd, oEq, oIsN, isN_none, isN_int, isN_bool, isN_str, isN_list, isN_tup, truD, oIx, uSl, uPart, uNoP, oSl, uCB, oLen, oList, oTuple, oInt, oAbs, oAll, oAny, oSum, onB, onI, uIs, uIs2, isT, uCall, uCallP, pick, vw, vw1, okU, okX, nolU, nol, nols, startU, kOf, kQ, kT, onL, uSeqI, uRng1, uRng2, rOk, uEnum, uRep, uTupRev, uYes, ugN, ugT2, wipeU, setU, uIfQ, uRetQ, uSetQ, uPutQ, ixC, szD, List.map_cons, List.map_nil, List.length_cons, List.length_nil, List.replicate, List.cons_append, List.nil_append, List.getElem?_cons_zero, List.getElem?_cons_succ, List.set_cons_zero, List.set_cons_succ, Option.map_some, Option.map_none, List.getD, Option.getD_some, if_true, true_and, and_true, Nat.reduceAdd, Nat.reduceSub, reduceIte, Bool.false_eq_true, Bool.not_true, Bool.not_false]
    refine i_lc ?_
    simp [vw_jk, at_0, at_1, at_2, at_3, at_4, ix_40, ix_41, ix_42, ix_43, boolsD_comp, intsD_comp, sh_int, sh_bool, sh_none, sh_str, ev_int, ev_bool, ev_str, ev_none, ev_ni, ev_in, uIfS, evT, ev, uRet, uRetO, uRetN, uDrop, uSet, uSetO, uMove, uFrz, uNext, uBreak, uCont, uApp, uIns, uPut, uPutA, uAug, uRaise, uVar, uC, uOp, uUn, uTru, uTst, uNot, uAnd, uOr, uAndV, uOrV, uNotV, uIf, uNil, uCons, argU, uTup, uLst, allD, onDs, onD, onT, onBool, oI, oIC, oAdd, oEq, oIsN, isN_none, isN_int, isN_bool, isN_str, isN_list, isN_tup, truD, oIx, uSl, uPart, uNoP, oSl, uCB, oLen, oList, oTuple, oInt, oAbs, oAll, oAny, oSum, onB, onI, uIs, uIs2, isT, uCall, uCallP, pick, vw, vw1, okU, okX, nolU, nol, nols, startU, kOf, kQ, kT, onL, uSeqI, uRng1, uRng2, rOk, uEnum, uRep, uTupRev, uYes, ugN, ugT2, wipeU, setU, uIfQ, uRetQ, uSetQ, uPutQ, ixC, szD, List.map_cons, List.map_nil, List.length_cons, List.length_nil, List.replicate, List.cons_append, List.nil_append, List.getElem?_cons_zero, List.getElem?_cons_succ, List.set_cons_zero, List.set_cons_succ, Option.map_some, Option.map_none, List.getD, Option.getD_some, if_true, true_and, and_true, Nat.reduceAdd, Nat.reduceSub, reduceIte, Bool.false_eq_true, Bool.not_true, Bool.not_false]
    let good : D → Bool := fun d => match d with | .int i => decide (0 ≤ i) && decide (i < n) | _ => false
    refine lc_fun (fun d => [.bool (good d)]) (lt_line es) (fun i d e => ⟨_, rfl, by simp, fun acc J hJ => ?_⟩) ?_
    · simp [vw_jk, at_0, at_1, at_2, at_3, at_4, ix_40, ix_41, ix_42, ix_43, boolsD_comp, intsD_comp, sh_int, sh_bool, sh_none, sh_str, ev_int, ev_bool, ev_str, ev_none, ev_ni, ev_in, uIfS, evT, ev, uRet, uRetO, uRetN, uDrop, uSet, uSetO, uMove, uFrz, uNext, uBreak, uCont, uApp, uIns, uPut, uPutA, uAug, uRaise, uVar, uC, uOp, uUn, uTru, uTst, uNot, uAnd, uOr, uAndV, uOrV, uNotV, uIf, uNil, uCons, argU, uTup, uLst, allD, onDs, onD, onT, onBool, oI, oIC, oAdd, oEq, oIsN, isN_none, isN_int, isN_bool, isN_str, isN_list, isN_tup, truD, oIx, uSl, uPart, uNoP, oSl, uCB, oLen, oList, oTuple, oInt, oAbs, oAll, oAny, oSum, onB, onI, uIs, uIs2, isT, uCall, uCallP, pick, vw, vw1, okU, okX, nolU, nol, nols, startU, kOf, kQ, kT, onL, uSeqI, uRng1, uRng2, rOk, uEnum, uRep, uTupRev, uYes, ugN, ugT2, wipeU, setU, uIfQ, uRetQ, uSetQ, uPutQ, ixC, szD, List.map_cons, List.map_nil, List.length_cons, List.length_nil, List.replicate, List.cons_append, List.nil_append, List.getElem?_cons_zero, List.getElem?_cons_succ, List.set_cons_zero, List.set_cons_succ, Option.map_some, Option.map_none, List.getD, Option.getD_some, if_true, true_and, and_true, Nat.reduceAdd, Nat.reduceSub, reduceIte, Bool.false_eq_true, Bool.not_true, Bool.not_false]
      refine ⟨_, rfl, ?_⟩
      cases d with
      | int z =>
        by_cases c : 0 ≤ z
        · have hJ2 : J (acc ++ [.bool (decide (0 ≤ z) && decide (z < n))]) := hJ
          simp [vw_jk, at_0, at_1, at_2, at_3, at_4, ix_40, ix_41, ix_42, ix_43, boolsD_comp, intsD_comp, sh_int, sh_bool, sh_none, sh_str, ev_int, ev_bool, ev_str, ev_none, ev_ni, ev_in, uIfS, evT, ev, uRet, uRetO, uRetN, uDrop, uSet, uSetO, uMove, uFrz, uNext, uBreak, uCont, uApp, uIns, uPut, uPutA, uAug, uRaise, uVar, uC, uOp, uUn, uTru, uTst, uNot, uAnd, uOr, uAndV, uOrV, uNotV, uIf, uNil, uCons, argU, uTup, uLst, allD, onDs, onD, onT, onBool, oI, oIC, oAdd, oEq, oIsN, isN_none, isN_int, isN_bool, isN_str, isN_list, isN_tup, truD, oIx, uSl, uPart, uNoP, oSl, uCB, oLen, oList, oTuple, oInt, oAbs, oAll, oAny, oSum, onB, onI, uIs, uIs2, isT, uCall, uCallP, pick, vw, vw1, okU, okX, nolU, nol, nols, startU, kOf, kQ, kT, onL, uSeqI, uRng1, uRng2, rOk, uEnum, uRep, uTupRev, uYes, ugN, ugT2, wipeU, setU, uIfQ, uRetQ, uSetQ, uPutQ, ixC, szD, List.map_cons, List.map_nil, List.length_cons, List.length_nil, List.replicate, List.cons_append, List.nil_append, List.getElem?_cons_zero, List.getElem?_cons_succ, List.set_cons_zero, List.set_cons_succ, Option.map_some, Option.map_none, List.getD, Option.getD_some, if_true, true_and, and_true, Nat.reduceAdd, Nat.reduceSub, reduceIte, Bool.false_eq_true, Bool.not_true, Bool.not_false, isNb, c] at hJ2 ⊢
          exact hJ2
        · have hJ2 : J (acc ++ [.bool (decide (0 ≤ z) && decide (z < n))]) := hJ
          simp [vw_jk, at_0, at_1, at_2, at_3, at_4, ix_40, ix_41, ix_42, ix_43, boolsD_comp, intsD_comp, sh_int, sh_bool, sh_none, sh_str, ev_int, ev_bool, ev_str, ev_none, ev_ni, ev_in, uIfS, evT, ev, uRet, uRetO, uRetN, uDrop, uSet, uSetO, uMove, uFrz, uNext, uBreak, uCont, uApp, uIns, uPut, uPutA, uAug, uRaise, uVar, uC, uOp, uUn, uTru, uTst, uNot, uAnd, uOr, uAndV, uOrV, uNotV, uIf, uNil, uCons, argU, uTup, uLst, allD, onDs, onD, onT, onBool, oI, oIC, oAdd, oEq, oIsN, isN_none, isN_int, isN_bool, isN_str, isN_list, isN_tup, truD, oIx, uSl, uPart, uNoP, oSl, uCB, oLen, oList, oTuple, oInt, oAbs, oAll, oAny, oSum, onB, onI, uIs, uIs2, isT, uCall, uCallP, pick, vw, vw1, okU, okX, nolU, nol, nols, startU, kOf, kQ, kT, onL, uSeqI, uRng1, uRng2, rOk, uEnum, uRep, uTupRev, uYes, ugN, ugT2, wipeU, setU, uIfQ, uRetQ, uSetQ, uPutQ, ixC, szD, List.map_cons, List.map_nil, List.length_cons, List.length_nil, List.replicate, List.cons_append, List.nil_append, List.getElem?_cons_zero, List.getElem?_cons_succ, List.set_cons_zero, List.set_cons_succ, Option.map_some, Option.map_none, List.getD, Option.getD_some, if_true, true_and, and_true, Nat.reduceAdd, Nat.reduceSub, reduceIte, Bool.false_eq_true, Bool.not_true, Bool.not_false, isNb, c] at hJ2 ⊢
          exact hJ2
      | _ => simp [vw_jk, at_0, at_1, at_2, at_3, at_4, ix_40, ix_41, ix_42, ix_43, boolsD_comp, intsD_comp, sh_int, sh_bool, sh_none, sh_str, ev_int, ev_bool, ev_str, ev_none, ev_ni, ev_in, uIfS, evT, ev, uRet, uRetO, uRetN, uDrop, uSet, uSetO, uMove, uFrz, uNext, uBreak, uCont, uApp, uIns, uPut, uPutA, uAug, uRaise, uVar, uC, uOp, uUn, uTru, uTst, uNot, uAnd, uOr, uAndV, uOrV, uNotV, uIf, uNil, uCons, argU, uTup, uLst, allD, onDs, onD, onT, onBool, oI, oIC, oAdd, oEq, oIsN, isN_none, isN_int, isN_bool, isN_str, isN_list, isN_tup, truD, oIx, uSl, uPart, uNoP, oSl, uCB, oLen, oList, oTuple, oInt, oAbs, oAll, oAny, oSum, onB, onI, uIs, uIs2, isT, uCall, uCallP, pick, vw, vw1, okU, okX, nolU, nol, nols, startU, kOf, kQ, kT, onL, uSeqI, uRng1, uRng2, rOk, uEnum, uRep, uTupRev, uYes, ugN, ugT2, wipeU, setU, uIfQ, uRetQ, uSetQ, uPutQ, ixC, szD, List.map_cons, List.map_nil, List.length_cons, List.length_nil, List.replicate, List.cons_append, List.nil_append, List.getElem?_cons_zero, List.getElem?_cons_succ, List.set_cons_zero, List.set_cons_succ, Option.map_some, Option.map_none, List.getD, Option.getD_some, if_true, true_and, and_true, Nat.reduceAdd, Nat.reduceSub, reduceIte, Bool.false_eq_true, Bool.not_true, Bool.not_false, isNb]; exact hJ
    · rw [bits_all]
      simp [vw_jk, at_0, at_1, at_2, at_3, at_4, ix_40, ix_41, ix_42, ix_43, boolsD_comp, intsD_comp, sh_int, sh_bool, sh_none, sh_str, ev_int, ev_bool, ev_str, ev_none, ev_ni, ev_in, uIfS, evT, ev, uRet, uRetO, uRetN, uDrop, uSet, uSetO, uMove, uFrz, uNext, uBreak, uCont, uApp, uIns, uPut, uPutA, uAug, uRaise, uVar, uC, uOp, uUn, uTru, uTst, uNot, uAnd, uOr, uAndV, uOrV, uNotV, uIf, uNil, uCons, argU, uTup, uLst, allD, onDs, onD, onT, onBool, oI, oIC, oAdd, oEq, oIsN, isN_none, isN_int, isN_bool, isN_str, isN_list, isN_tup, truD, oIx, uSl, uPart, uNoP, oSl, uCB, oLen, oList, oTuple, oInt, oAbs, oAll, oAny, oSum, onB, onI, uIs, uIs2, isT, uCall, uCallP, pick, vw, vw1, okU, okX, nolU, nol, nols, startU, kOf, kQ, kT, onL, uSeqI, uRng1, uRng2, rOk, uEnum, uRep, uTupRev, uYes, ugN, ugT2, wipeU, setU, uIfQ, uRetQ, uSetQ, uPutQ, ixC, szD, List.map_cons, List.map_nil, List.length_cons, List.length_nil, List.replicate, List.cons_append, List.nil_append, List.getElem?_cons_zero, List.getElem?_cons_succ, List.set_cons_zero, List.set_cons_succ, Option.map_some, Option.map_none, List.getD, Option.getD_some, if_true, true_and, and_true, Nat.reduceAdd, Nat.reduceSub, reduceIte, Bool.false_eq_true, Bool.not_true, Bool.not_false, boolsD_map]
      split
      · next z => exact ⟨_, _, ⟨rfl, rfl⟩, r1 (fun ⟨fs, e', _, q⟩ => by
          cases e'
          obtain ⟨a, a1, a2⟩ := z
          obtain ⟨f, f1, rfl⟩ := List.mem_map.mp a1
          have := q f f1
          have e3 : good (.int (f : Int)) = true := by show (decide (0 ≤ (f : Int)) && decide ((f : Int) < n)) = true; simp; omega
          rw [e3] at a2; cases a2)⟩
      · next z =>
        have hall : ∀ d ∈ l, good d = true := fun d hd => by
          by_cases c : good d = true
          · exact c
          · exact absurd ⟨d, hd, by simpa using c⟩ z
        have hfs : l = (l.map fun d => match d with | .int i => i.toNat | _ => 0).map fun (f : Nat) => .int f := by
          rw [List.map_map]
          have : l.map id = l := List.map_id l
          rw [← this, List.map_map]
          refine (List.map_congr_left fun d hd => ?_)
          have := hall d hd
          cases d with
          | int i =>
            have h2 : (decide (0 ≤ i) && decide (i < n)) = true := this
            simp at h2
            simp
            omega
          | _ => cases this
        refine step3 _ hfs fun f hf => ?_
        obtain ⟨d, hd, rfl⟩ := List.mem_map.mp hf
        have := hall d hd
        cases d with
        | int i =>
          have h2 : (decide (0 ≤ i) && decide (i < n)) = true := this
          simp at h2
          simp
          omega
        | _ => cases this
  cases x with
  | tuple l =>
    simp [vw_jk, at_0, at_1, at_2, at_3, at_4, ix_40, ix_41, ix_42, ix_43, boolsD_comp, intsD_comp, sh_int, sh_bool, sh_none, sh_str, ev_int, ev_bool, ev_str, ev_none, ev_ni, ev_in, uIfS, evT, ev, uRet, uRetO, uRetN, uDrop, uSet, uSetO, uMove, uFrz, uNext, uBreak, uCont, uApp, uIns, uPut, uPutA, uAug, uRaise, uVar, uC, uOp, uUn, uTru, uTst, uNot, uAnd, uOr, uAndV, uOrV, uNotV, uIf, uNil, uCons, argU, uTup, uLst, allD, onDs, onD, onT, onBool, oI, oIC, oAdd, oEq, oIsN, isN_none, isN_int, isN_bool, isN_str, isN_list, isN_tup, truD, oIx, uSl, uPart, uNoP, oSl, uCB, oLen, oList, oTuple, oInt, oAbs, oAll, oAny, oSum, onB, onI, uIs, uIs2, isT, uCall, uCallP, pick, vw, vw1, okU, okX, nolU, nol, nols, startU, kOf, kQ, kT, onL, uSeqI, uRng1, uRng2, rOk, uEnum, uRep, uTupRev, uYes, ugN, ugT2, wipeU, setU, uIfQ, uRetQ, uSetQ, uPutQ, ixC, szD, List.map_cons, List.map_nil, List.length_cons, List.length_nil, List.replicate, List.cons_append, List.nil_append, List.getElem?_cons_zero, List.getElem?_cons_succ, List.set_cons_zero, List.set_cons_succ, Option.map_some, Option.map_none, List.getD, Option.getD_some, if_true, true_and, and_true, Nat.reduceAdd, Nat.reduceSub, reduceIte, Bool.false_eq_true, Bool.not_true, Bool.not_false]
    split
    · next z => exact ⟨_, _, ⟨rfl, rfl⟩, r1 fun ⟨fs, e', q, _⟩ => by cases e'; simp at z; exact q z⟩
    · next z => exact step2 l rfl (fun e => z (by simp [e])) sx
  | _ =>
    simp [vw_jk, at_0, at_1, at_2, at_3, at_4, ix_40, ix_41, ix_42, ix_43, boolsD_comp, intsD_comp, sh_int, sh_bool, sh_none, sh_str, ev_int, ev_bool, ev_str, ev_none, ev_ni, ev_in, uIfS, evT, ev, uRet, uRetO, uRetN, uDrop, uSet, uSetO, uMove, uFrz, uNext, uBreak, uCont, uApp, uIns, uPut, uPutA, uAug, uRaise, uVar, uC, uOp, uUn, uTru, uTst, uNot, uAnd, uOr, uAndV, uOrV, uNotV, uIf, uNil, uCons, argU, uTup, uLst, allD, onDs, onD, onT, onBool, oI, oIC, oAdd, oEq, oIsN, isN_none, isN_int, isN_bool, isN_str, isN_list, isN_tup, truD, oIx, uSl, uPart, uNoP, oSl, uCB, oLen, oList, oTuple, oInt, oAbs, oAll, oAny, oSum, onB, onI, uIs, uIs2, isT, uCall, uCallP, pick, vw, vw1, okU, okX, nolU, nol, nols, startU, kOf, kQ, kT, onL, uSeqI, uRng1, uRng2, rOk, uEnum, uRep, uTupRev, uYes, ugN, ugT2, wipeU, setU, uIfQ, uRetQ, uSetQ, uPutQ, ixC, szD, List.map_cons, List.map_nil, List.length_cons, List.length_nil, List.replicate, List.cons_append, List.nil_append, List.getElem?_cons_zero, List.getElem?_cons_succ, List.set_cons_zero, List.set_cons_succ, Option.map_some, Option.map_none, List.getD, Option.getD_some, if_true, true_and, and_true, Nat.reduceAdd, Nat.reduceSub, reduceIte, Bool.false_eq_true, Bool.not_true, Bool.not_false]
    exact ⟨_, _, ⟨rfl, rfl⟩, r1 fun ⟨m', e', _⟩ => by cases e'⟩
theorem sc__law_a_hold : FnScope ["_law_script", "_law_cell"] ["_law_script"] (defScope s__law_a_hold) := ⟨rfl, rfl, rfl, by decide +kernel, rfl, by decide +kernel, by decide +kernel⟩
def fn__law_a_hold : Fn := fun as P PX => ∃ ns : List Int, as = [.d (scriptD ns)] ∧ ns.length ≤ 63 ∧ ∀ l, HVk l → P (.own l)
theorem has__law_a_hold (T : Tk P K mg) : ∃ fd, Has P w K mg base 1 "_law_a_hold" s__law_a_hold ["_law_script"] fn__law_a_hold fd := by
  obtain ⟨fd, F⟩ := T.f__law_a_hold
  have hb := F.binds (ps := ["_law_script"]) fun _ _ _ _ _ _ us hl => match us, hl with | [_], _ => rfl
  refine ⟨fd, T.g__law_a_hold, F.kp, F, hb, fnD F sc__law_a_hold (by decide) fun cdv A outer s H E hr => ⟨_, _, (dss_one (ds_ret false (de_lst (da_cons de_int (da_cons (de_op (do_addk (KK := K)) de_int (de_op do_mul de_int (de_callB (dc_lenk (KK := K)) rfl T.n_len bt_len (da_cons (dv 0) da_nil)))) (da_cons de_int (da_cons (de_lc rfl sc__law_a_hold.nd (own := [("_law_cell", 1)]) (di_seqk (KK := K) (dv 0)) (blk_of (by kernel_rfl)) (fun _ _ _ _ _ => (dg_name 1 sc__law_a_hold.nd)) (fun _ _ _ _ _ => dts_nil) (fun _ _ _ _ _ => (dv 1))) da_nil))))))), ?_⟩⟩
  rintro as Q PX hl ⟨ns, rfl, hn, hp⟩
  unfold scriptD
  simp [vw_jk, at_0, at_1, at_2, at_3, at_4, ix_40, ix_41, ix_42, ix_43, boolsD_comp, intsD_comp, sh_int, sh_bool, sh_none, sh_str, ev_int, ev_bool, ev_str, ev_none, ev_ni, ev_in, uIfS, evT, ev, uRet, uRetO, uRetN, uDrop, uSet, uSetO, uMove, uFrz, uNext, uBreak, uCont, uApp, uIns, uPut, uPutA, uAug, uRaise, uVar, uC, uOp, uUn, uTru, uTst, uNot, uAnd, uOr, uAndV, uOrV, uNotV, uIf, uNil, uCons, argU, uTup, uLst, allD, onDs, onD, onT, onBool, oI, oIC, oAdd, oEq, oIsN, isN_none, isN_int, isN_bool, isN_str, isN_list, isN_tup, truD, oIx, uSl, uPart, uNoP, oSl, uCB, oLen, oList, oTuple, oInt, oAbs, oAll, oAny, oSum, onB, onI, uIs, uIs2, isT, uCall, uCallP, pick, vw, vw1, okU, okX, nolU, nol, nols, startU, kOf, kQ, kT, onL, uSeqI, uRng1, uRng2, rOk, uEnum, uRep, uTupRev, uYes, ugN, ugT2, wipeU, setU, uIfQ, uRetQ, uSetQ, uPutQ, ixC, szD, List.map_cons, List.map_nil, List.length_cons, List.length_nil, List.replicate, List.cons_append, List.nil_append, List.getElem?_cons_zero, List.getElem?_cons_succ, List.set_cons_zero, List.set_cons_succ, Option.map_some, Option.map_none, List.getD, Option.getD_some, if_true, true_and, and_true, Nat.reduceAdd, Nat.reduceSub, reduceIte, Bool.false_eq_true, Bool.not_true, Bool.not_false]
  refine ⟨mulL (by decide), ?_⟩
  refine i_lc ?_
  simp [vw_jk, at_0, at_1, at_2, at_3, at_4, ix_40, ix_41, ix_42, ix_43, boolsD_comp, intsD_comp, sh_int, sh_bool, sh_none, sh_str, ev_int, ev_bool, ev_str, ev_none, ev_ni, ev_in, uIfS, evT, ev, uRet, uRetO, uRetN, uDrop, uSet, uSetO, uMove, uFrz, uNext, uBreak, uCont, uApp, uIns, uPut, uPutA, uAug, uRaise, uVar, uC, uOp, uUn, uTru, uTst, uNot, uAnd, uOr, uAndV, uOrV, uNotV, uIf, uNil, uCons, argU, uTup, uLst, allD, onDs, onD, onT, onBool, oI, oIC, oAdd, oEq, oIsN, isN_none, isN_int, isN_bool, isN_str, isN_list, isN_tup, truD, oIx, uSl, uPart, uNoP, oSl, uCB, oLen, oList, oTuple, oInt, oAbs, oAll, oAny, oSum, onB, onI, uIs, uIs2, isT, uCall, uCallP, pick, vw, vw1, okU, okX, nolU, nol, nols, startU, kOf, kQ, kT, onL, uSeqI, uRng1, uRng2, rOk, uEnum, uRep, uTupRev, uYes, ugN, ugT2, wipeU, setU, uIfQ, uRetQ, uSetQ, uPutQ, ixC, szD, List.map_cons, List.map_nil, List.length_cons, List.length_nil, List.replicate, List.cons_append, List.nil_append, List.getElem?_cons_zero, List.getElem?_cons_succ, List.set_cons_zero, List.set_cons_succ, Option.map_some, Option.map_none, List.getD, Option.getD_some, if_true, true_and, and_true, Nat.reduceAdd, Nat.reduceSub, reduceIte, Bool.false_eq_true, Bool.not_true, Bool.not_false]
  refine lc_fun (fun d => [d]) (by rw [List.length_map]; exact lt_line (by omega)) (fun i d e => ⟨_, rfl, by simp, fun acc J hJ => ?_⟩) ?_
  · simp [vw_jk, at_0, at_1, at_2, at_3, at_4, ix_40, ix_41, ix_42, ix_43, boolsD_comp, intsD_comp, sh_int, sh_bool, sh_none, sh_str, ev_int, ev_bool, ev_str, ev_none, ev_ni, ev_in, uIfS, evT, ev, uRet, uRetO, uRetN, uDrop, uSet, uSetO, uMove, uFrz, uNext, uBreak, uCont, uApp, uIns, uPut, uPutA, uAug, uRaise, uVar, uC, uOp, uUn, uTru, uTst, uNot, uAnd, uOr, uAndV, uOrV, uNotV, uIf, uNil, uCons, argU, uTup, uLst, allD, onDs, onD, onT, onBool, oI, oIC, oAdd, oEq, oIsN, isN_none, isN_int, isN_bool, isN_str, isN_list, isN_tup, truD, oIx, uSl, uPart, uNoP, oSl, uCB, oLen, oList, oTuple, oInt, oAbs, oAll, oAny, oSum, onB, onI, uIs, uIs2, isT, uCall, uCallP, pick, vw, vw1, okU, okX, nolU, nol, nols, startU, kOf, kQ, kT, onL, uSeqI, uRng1, uRng2, rOk, uEnum, uRep, uTupRev, uYes, ugN, ugT2, wipeU, setU, uIfQ, uRetQ, uSetQ, uPutQ, ixC, szD, List.map_cons, List.map_nil, List.length_cons, List.length_nil, List.replicate, List.cons_append, List.nil_append, List.getElem?_cons_zero, List.getElem?_cons_succ, List.set_cons_zero, List.set_cons_succ, Option.map_some, Option.map_none, List.getD, Option.getD_some, if_true, true_and, and_true, Nat.reduceAdd, Nat.reduceSub, reduceIte, Bool.false_eq_true, Bool.not_true, Bool.not_false]; exact hJ
  · rw [flat_one]
    simp [vw_jk, at_0, at_1, at_2, at_3, at_4, ix_40, ix_41, ix_42, ix_43, boolsD_comp, intsD_comp, sh_int, sh_bool, sh_none, sh_str, ev_int, ev_bool, ev_str, ev_none, ev_ni, ev_in, uIfS, evT, ev, uRet, uRetO, uRetN, uDrop, uSet, uSetO, uMove, uFrz, uNext, uBreak, uCont, uApp, uIns, uPut, uPutA, uAug, uRaise, uVar, uC, uOp, uUn, uTru, uTst, uNot, uAnd, uOr, uAndV, uOrV, uNotV, uIf, uNil, uCons, argU, uTup, uLst, allD, onDs, onD, onT, onBool, oI, oIC, oAdd, oEq, oIsN, isN_none, isN_int, isN_bool, isN_str, isN_list, isN_tup, truD, oIx, uSl, uPart, uNoP, oSl, uCB, oLen, oList, oTuple, oInt, oAbs, oAll, oAny, oSum, onB, onI, uIs, uIs2, isT, uCall, uCallP, pick, vw, vw1, okU, okX, nolU, nol, nols, startU, kOf, kQ, kT, onL, uSeqI, uRng1, uRng2, rOk, uEnum, uRep, uTupRev, uYes, ugN, ugT2, wipeU, setU, uIfQ, uRetQ, uSetQ, uPutQ, ixC, szD, List.map_cons, List.map_nil, List.length_cons, List.length_nil, List.replicate, List.cons_append, List.nil_append, List.getElem?_cons_zero, List.getElem?_cons_succ, List.set_cons_zero, List.set_cons_succ, Option.map_some, Option.map_none, List.getD, Option.getD_some, if_true, true_and, and_true, Nat.reduceAdd, Nat.reduceSub, reduceIte, Bool.false_eq_true, Bool.not_true, Bool.not_false]
    exact ⟨by decide, hp _ ⟨0, _, 0, ns, rfl, by omega, by omega, by omega⟩⟩
theorem sc__law_take : FnScope ["_law_hold", "_law_many", "_law_cell", "_law_worth"] ["_law_hold", "_law_many"] (defScope s__law_take) := ⟨rfl, rfl, rfl, by decide +kernel, rfl, by decide +kernel, by decide +kernel⟩
def fn__law_take : Fn := fun as P PX => ∃ m : Int, as = [.hold HVk, .d (.int m)] ∧ 0 < m ∧ m.natAbs.log2 < 9000 ∧ ∀ r : Int, 0 ≤ r → r < m → P (.d (.int r))
theorem tk {m : Int} {P : U → Prop} {PX : Ex → Prop} (hm : 0 < m) (h2 : m.natAbs.log2 < 9000) (h : ∀ r : Int, 0 ≤ r → r < m → P (.d (.int r))) : fn__law_take [.hold HVk, .d (.int m)] P PX := ⟨m, rfl, hm, h2, h⟩
theorem lgS {m : Int} (h : m.natAbs < 2 ^ 400) : m.natAbs.log2 < 9000 := by
  by_cases z : m.natAbs = 0
  · rw [z]; decide
  · have := (Nat.log2_lt z).mpr h
    omega
theorem mulW {i j : Int} (h1 : i.natAbs < 2 ^ 400) (h2 : j.natAbs < 2 ^ 400) : CMulA i j := .inr (by
  have l1 := lgS h1
  have l2 := lgS h2
  show i.natAbs.log2 + j.natAbs.log2 < 1000000
  omega)
theorem has__law_take (T : Tk P K mg) : ∃ fd, Has P w K mg base 1 "_law_take" s__law_take ["_law_hold", "_law_many"] fn__law_take fd := by
  obtain ⟨fd, F⟩ := T.f__law_take
  have hb := F.binds (ps := ["_law_hold", "_law_many"]) fun _ _ _ _ _ _ us hl => match us, hl with | [_, _], _ => rfl
  refine ⟨fd, T.g__law_take, F.kp, F, hb, fnH F sc__law_take (by decide) fun cdv A outer s H E hr => ⟨_, _, (dqs_cons (dq_if (W := WD E) (DW.dt (dw_and (dt_cmp (do_eqk (KK := K) hr.units) (de_ixk (KK := K) (dv 0) de_int) de_int) (dw_and1 (dt_cmp do_lt (de_ixk (KK := K) (dv 0) de_int) (de_callB (dc_lenk (KK := K)) rfl T.n_len bt_len (da_cons (de_ixk (KK := K) (dv 0) de_int) da_nil)))))) (dqs_cons (dq_set (W := WD E) 2 (de_ixk (KK := K) (de_ixk (KK := K) (dv 0) de_int) (de_ixk (KK := K) (dv 0) de_int)) sc__law_take.nd)
    (dqs_cons (dq_put (W := WD E) de_int (de_op (do_addk (KK := K)) (de_ixk (KK := K) (dv 0) de_int) de_int))
    (dqs_cons (dq_put (W := WD E) de_int (de_op (do_addk (KK := K)) (de_op (do_addk (KK := K)) (de_op do_mul (de_ixk (KK := K) (dv 0) de_int) de_int) (de_op do_mul (dv 2) de_int)) de_int))
    (dqs_cons (dq_put (W := WD E) de_int (de_op do_mod (de_callTy dc_int rfl T.n_int bt_int (da_cons (de_ixk (KK := K) (dv 0) de_int) da_nil)) de_int))
    (dqs_one (dq_if (W := WD E) (dt_cmp do_ge (dv 2) (de_op do_pow de_int de_int)) (dqs_one (dq_put (W := WD E) de_int (dv 2))) dqs_nil)))))) dqs_nil)
    (dqs_cons (dq_if (W := WD E) (dt_cmp do_gt (de_ixk (KK := K) (dv 0) de_int) de_int) (dqs_cons (dq_set (W := WD E) 3 (de_op do_mod (de_callTy dc_int rfl T.n_int bt_int (da_cons (de_ixk (KK := K) (dv 0) de_int) da_nil)) (dv 1)) sc__law_take.nd)
    (dqs_cons (dq_put (W := WD E) de_int (de_op do_fdiv (de_callTy dc_int rfl T.n_int bt_int (da_cons (de_ixk (KK := K) (dv 0) de_int) da_nil)) (dv 1)))
    (dqs_one (dq_ret (W := WD E) (dv 3))))) dqs_nil)
    (dqs_cons (dq_put (W := WD E) de_int (de_op do_mod (de_callTy dc_int rfl T.n_int bt_int (da_cons (de_op (do_addk (KK := K)) (de_op do_mul (de_ixk (KK := K) (dv 0) de_int) de_int) de_int) da_nil)) de_int))
    (dqs_one (dq_ret (W := WD E) (de_op do_mod (de_callTy dc_int rfl T.n_int bt_int (da_cons (de_op do_fdiv (de_callTy dc_int rfl T.n_int bt_int (da_cons (de_ixk (KK := K) (dv 0) de_int) da_nil)) de_int) da_nil)) (dv 1))))))), ?_⟩⟩
  rintro as Q PX hl ⟨m, rfl, hm, hm2, hp⟩
  refine ⟨HVk, [.int m], rfl, by simp [atm], ?_⟩
  rintro l ⟨w, s, i, c, rfl, w0, s0, i0⟩
  refine i_cut (fun s' => ∃ (w s i : Int) (c : List Int) (o : Option U), s' = [some (.d (.list [.int w, .int s, .int i, .list (c.map .int)])), some (.d (.int m)), o, none] ∧ 0 ≤ w ∧ 0 ≤ s ∧ 0 ≤ i) ?_ ?_
  · rintro s' ⟨w, s, i, c, o, rfl, w0, s0, i0⟩
    refine i_seq fun N hN => ?_
    have hdiv : CDivW w m := ⟨hm, hm2⟩
    simp [vw_jk, at_0, at_1, at_2, at_3, at_4, ix_40, ix_41, ix_42, ix_43, boolsD_comp, intsD_comp, sh_int, sh_bool, sh_none, sh_str, ev_int, ev_bool, ev_str, ev_none, ev_ni, ev_in, uIfS, evT, ev, uRet, uRetO, uRetN, uDrop, uSet, uSetO, uMove, uFrz, uNext, uBreak, uCont, uApp, uIns, uPut, uPutA, uAug, uRaise, uVar, uC, uOp, uUn, uTru, uTst, uNot, uAnd, uOr, uAndV, uOrV, uNotV, uIf, uNil, uCons, argU, uTup, uLst, allD, onDs, onD, onT, onBool, oI, oIC, oAdd, oEq, oIsN, isN_none, isN_int, isN_bool, isN_str, isN_list, isN_tup, truD, oIx, uSl, uPart, uNoP, oSl, uCB, oLen, oList, oTuple, oInt, oAbs, oAll, oAny, oSum, onB, onI, uIs, uIs2, isT, uCall, uCallP, pick, vw, vw1, okU, okX, nolU, nol, nols, startU, kOf, kQ, kT, onL, uSeqI, uRng1, uRng2, rOk, uEnum, uRep, uTupRev, uYes, ugN, ugT2, wipeU, setU, uIfQ, uRetQ, uSetQ, uPutQ, ixC, szD, List.map_cons, List.map_nil, List.length_cons, List.length_nil, List.replicate, List.cons_append, List.nil_append, List.getElem?_cons_zero, List.getElem?_cons_succ, List.set_cons_zero, List.set_cons_succ, Option.map_some, Option.map_none, List.getD, Option.getD_some, if_true, true_and, and_true, Nat.reduceAdd, Nat.reduceSub, reduceIte, Bool.false_eq_true, Bool.not_true, Bool.not_false]
    by_cases hw : 0 < w
    · simp [uSeq, vw_jk, at_0, at_1, at_2, at_3, at_4, ix_40, ix_41, ix_42, ix_43, boolsD_comp, intsD_comp, sh_int, sh_bool, sh_none, sh_str, ev_int, ev_bool, ev_str, ev_none, ev_ni, ev_in, uIfS, evT, ev, uRet, uRetO, uRetN, uDrop, uSet, uSetO, uMove, uFrz, uNext, uBreak, uCont, uApp, uIns, uPut, uPutA, uAug, uRaise, uVar, uC, uOp, uUn, uTru, uTst, uNot, uAnd, uOr, uAndV, uOrV, uNotV, uIf, uNil, uCons, argU, uTup, uLst, allD, onDs, onD, onT, onBool, oI, oIC, oAdd, oEq, oIsN, isN_none, isN_int, isN_bool, isN_str, isN_list, isN_tup, truD, oIx, uSl, uPart, uNoP, oSl, uCB, oLen, oList, oTuple, oInt, oAbs, oAll, oAny, oSum, onB, onI, uIs, uIs2, isT, uCall, uCallP, pick, vw, vw1, okU, okX, nolU, nol, nols, startU, kOf, kQ, kT, onL, uSeqI, uRng1, uRng2, rOk, uEnum, uRep, uTupRev, uYes, ugN, ugT2, wipeU, setU, uIfQ, uRetQ, uSetQ, uPutQ, ixC, szD, List.map_cons, List.map_nil, List.length_cons, List.length_nil, List.replicate, List.cons_append, List.nil_append, List.getElem?_cons_zero, List.getElem?_cons_succ, List.set_cons_zero, List.set_cons_succ, Option.map_some, Option.map_none, List.getD, Option.getD_some, if_true, true_and, and_true, Nat.reduceAdd, Nat.reduceSub, reduceIte, Bool.false_eq_true, Bool.not_true, Bool.not_false, hw]
      exact ⟨hm, hdiv, ⟨_, rfl, w / m, s, i, c, rfl, Int.ediv_nonneg w0 (by omega), s0, i0⟩, hp _ (Int.emod_nonneg _ (by omega)) (Int.emod_lt_of_pos _ hm)⟩
    · simp [vw_jk, at_0, at_1, at_2, at_3, at_4, ix_40, ix_41, ix_42, ix_43, boolsD_comp, intsD_comp, sh_int, sh_bool, sh_none, sh_str, ev_int, ev_bool, ev_str, ev_none, ev_ni, ev_in, uIfS, evT, ev, uRet, uRetO, uRetN, uDrop, uSet, uSetO, uMove, uFrz, uNext, uBreak, uCont, uApp, uIns, uPut, uPutA, uAug, uRaise, uVar, uC, uOp, uUn, uTru, uTst, uNot, uAnd, uOr, uAndV, uOrV, uNotV, uIf, uNil, uCons, argU, uTup, uLst, allD, onDs, onD, onT, onBool, oI, oIC, oAdd, oEq, oIsN, isN_none, isN_int, isN_bool, isN_str, isN_list, isN_tup, truD, oIx, uSl, uPart, uNoP, oSl, uCB, oLen, oList, oTuple, oInt, oAbs, oAll, oAny, oSum, onB, onI, uIs, uIs2, isT, uCall, uCallP, pick, vw, vw1, okU, okX, nolU, nol, nols, startU, kOf, kQ, kT, onL, uSeqI, uRng1, uRng2, rOk, uEnum, uRep, uTupRev, uYes, ugN, ugT2, wipeU, setU, uIfQ, uRetQ, uSetQ, uPutQ, ixC, szD, List.map_cons, List.map_nil, List.length_cons, List.length_nil, List.replicate, List.cons_append, List.nil_append, List.getElem?_cons_zero, List.getElem?_cons_succ, List.set_cons_zero, List.set_cons_succ, Option.map_some, Option.map_none, List.getD, Option.getD_some, if_true, true_and, and_true, Nat.reduceAdd, Nat.reduceSub, reduceIte, Bool.false_eq_true, Bool.not_true, Bool.not_false, hw]
      rw [hN]
      simp [uSeq, vw_jk, at_0, at_1, at_2, at_3, at_4, ix_40, ix_41, ix_42, ix_43, boolsD_comp, intsD_comp, sh_int, sh_bool, sh_none, sh_str, ev_int, ev_bool, ev_str, ev_none, ev_ni, ev_in, uIfS, evT, ev, uRet, uRetO, uRetN, uDrop, uSet, uSetO, uMove, uFrz, uNext, uBreak, uCont, uApp, uIns, uPut, uPutA, uAug, uRaise, uVar, uC, uOp, uUn, uTru, uTst, uNot, uAnd, uOr, uAndV, uOrV, uNotV, uIf, uNil, uCons, argU, uTup, uLst, allD, onDs, onD, onT, onBool, oI, oIC, oAdd, oEq, oIsN, isN_none, isN_int, isN_bool, isN_str, isN_list, isN_tup, truD, oIx, uSl, uPart, uNoP, oSl, uCB, oLen, oList, oTuple, oInt, oAbs, oAll, oAny, oSum, onB, onI, uIs, uIs2, isT, uCall, uCallP, pick, vw, vw1, okU, okX, nolU, nol, nols, startU, kOf, kQ, kT, onL, uSeqI, uRng1, uRng2, rOk, uEnum, uRep, uTupRev, uYes, ugN, ugT2, wipeU, setU, uIfQ, uRetQ, uSetQ, uPutQ, ixC, szD, List.map_cons, List.map_nil, List.length_cons, List.length_nil, List.replicate, List.cons_append, List.nil_append, List.getElem?_cons_zero, List.getElem?_cons_succ, List.set_cons_zero, List.set_cons_succ, Option.map_some, Option.map_none, List.getD, Option.getD_some, if_true, true_and, and_true, Nat.reduceAdd, Nat.reduceSub, reduceIte, Bool.false_eq_true, Bool.not_true, Bool.not_false]
      exact ⟨mulR (by decide), divS (by decide) (by decide), hm, ⟨_, rfl, w, _, i, c, rfl, w0, Int.emod_nonneg _ (by decide), i0⟩, hp _ (Int.emod_nonneg _ (by omega)) (Int.emod_lt_of_pos _ hm)⟩
  · intro N hN
    simp [vw_jk, at_0, at_1, at_2, at_3, at_4, ix_40, ix_41, ix_42, ix_43, boolsD_comp, intsD_comp, sh_int, sh_bool, sh_none, sh_str, ev_int, ev_bool, ev_str, ev_none, ev_ni, ev_in, uIfS, evT, ev, uRet, uRetO, uRetN, uDrop, uSet, uSetO, uMove, uFrz, uNext, uBreak, uCont, uApp, uIns, uPut, uPutA, uAug, uRaise, uVar, uC, uOp, uUn, uTru, uTst, uNot, uAnd, uOr, uAndV, uOrV, uNotV, uIf, uNil, uCons, argU, uTup, uLst, allD, onDs, onD, onT, onBool, oI, oIC, oAdd, oEq, oIsN, isN_none, isN_int, isN_bool, isN_str, isN_list, isN_tup, truD, oIx, uSl, uPart, uNoP, oSl, uCB, oLen, oList, oTuple, oInt, oAbs, oAll, oAny, oSum, onB, onI, uIs, uIs2, isT, uCall, uCallP, pick, vw, vw1, okU, okX, nolU, nol, nols, startU, kOf, kQ, kT, onL, uSeqI, uRng1, uRng2, rOk, uEnum, uRep, uTupRev, uYes, ugN, ugT2, wipeU, setU, uIfQ, uRetQ, uSetQ, uPutQ, ixC, szD, List.map_cons, List.map_nil, List.length_cons, List.length_nil, List.replicate, List.cons_append, List.nil_append, List.getElem?_cons_zero, List.getElem?_cons_succ, List.set_cons_zero, List.set_cons_succ, Option.map_some, Option.map_none, List.getD, Option.getD_some, if_true, true_and, and_true, Nat.reduceAdd, Nat.reduceSub, reduceIte, Bool.false_eq_true, Bool.not_true, Bool.not_false]
    by_cases hw : w = 0
    · by_cases hi : i < c.length
      · obtain ⟨x, h1, h2⟩ := at_nn (l := c.map PyData.int) i0 (by simpa using hi)
        rw [List.getElem?_map] at h2
        obtain ⟨z, h3, rfl⟩ := Option.map_eq_some_iff.mp h2
        simp [uSeq, vw_jk, at_0, at_1, at_2, at_3, at_4, ix_40, ix_41, ix_42, ix_43, boolsD_comp, intsD_comp, sh_int, sh_bool, sh_none, sh_str, ev_int, ev_bool, ev_str, ev_none, ev_ni, ev_in, uIfS, evT, ev, uRet, uRetO, uRetN, uDrop, uSet, uSetO, uMove, uFrz, uNext, uBreak, uCont, uApp, uIns, uPut, uPutA, uAug, uRaise, uVar, uC, uOp, uUn, uTru, uTst, uNot, uAnd, uOr, uAndV, uOrV, uNotV, uIf, uNil, uCons, argU, uTup, uLst, allD, onDs, onD, onT, onBool, oI, oIC, oAdd, oEq, oIsN, isN_none, isN_int, isN_bool, isN_str, isN_list, isN_tup, truD, oIx, uSl, uPart, uNoP, oSl, uCB, oLen, oList, oTuple, oInt, oAbs, oAll, oAny, oSum, onB, onI, uIs, uIs2, isT, uCall, uCallP, pick, vw, vw1, okU, okX, nolU, nol, nols, startU, kOf, kQ, kT, onL, uSeqI, uRng1, uRng2, rOk, uEnum, uRep, uTupRev, uYes, ugN, ugT2, wipeU, setU, uIfQ, uRetQ, uSetQ, uPutQ, ixC, szD, List.map_cons, List.map_nil, List.length_cons, List.length_nil, List.replicate, List.cons_append, List.nil_append, List.getElem?_cons_zero, List.getElem?_cons_succ, List.set_cons_zero, List.set_cons_succ, Option.map_some, Option.map_none, List.getD, Option.getD_some, if_true, true_and, and_true, Nat.reduceAdd, Nat.reduceSub, reduceIte, Bool.false_eq_true, Bool.not_true, Bool.not_false, hw, hi, h1]
        refine ⟨mulR (by decide), mulR (by decide), powS (by decide) (by decide) (by decide), ?_⟩
        split
        · exact hN _ ⟨z, _, _, c, _, rfl, by omega, Int.emod_nonneg _ (by decide), by omega⟩
        · exact hN _ ⟨0, _, _, c, _, rfl, Int.le_refl _, Int.emod_nonneg _ (by decide), by omega⟩
      · simp [vw_jk, at_0, at_1, at_2, at_3, at_4, ix_40, ix_41, ix_42, ix_43, boolsD_comp, intsD_comp, sh_int, sh_bool, sh_none, sh_str, ev_int, ev_bool, ev_str, ev_none, ev_ni, ev_in, uIfS, evT, ev, uRet, uRetO, uRetN, uDrop, uSet, uSetO, uMove, uFrz, uNext, uBreak, uCont, uApp, uIns, uPut, uPutA, uAug, uRaise, uVar, uC, uOp, uUn, uTru, uTst, uNot, uAnd, uOr, uAndV, uOrV, uNotV, uIf, uNil, uCons, argU, uTup, uLst, allD, onDs, onD, onT, onBool, oI, oIC, oAdd, oEq, oIsN, isN_none, isN_int, isN_bool, isN_str, isN_list, isN_tup, truD, oIx, uSl, uPart, uNoP, oSl, uCB, oLen, oList, oTuple, oInt, oAbs, oAll, oAny, oSum, onB, onI, uIs, uIs2, isT, uCall, uCallP, pick, vw, vw1, okU, okX, nolU, nol, nols, startU, kOf, kQ, kT, onL, uSeqI, uRng1, uRng2, rOk, uEnum, uRep, uTupRev, uYes, ugN, ugT2, wipeU, setU, uIfQ, uRetQ, uSetQ, uPutQ, ixC, szD, List.map_cons, List.map_nil, List.length_cons, List.length_nil, List.replicate, List.cons_append, List.nil_append, List.getElem?_cons_zero, List.getElem?_cons_succ, List.set_cons_zero, List.set_cons_succ, Option.map_some, Option.map_none, List.getD, Option.getD_some, if_true, true_and, and_true, Nat.reduceAdd, Nat.reduceSub, reduceIte, Bool.false_eq_true, Bool.not_true, Bool.not_false, hw, hi]
        exact hN _ ⟨0, s, i, c, none, rfl, Int.le_refl _, s0, i0⟩
    · simp [vw_jk, at_0, at_1, at_2, at_3, at_4, ix_40, ix_41, ix_42, ix_43, boolsD_comp, intsD_comp, sh_int, sh_bool, sh_none, sh_str, ev_int, ev_bool, ev_str, ev_none, ev_ni, ev_in, uIfS, evT, ev, uRet, uRetO, uRetN, uDrop, uSet, uSetO, uMove, uFrz, uNext, uBreak, uCont, uApp, uIns, uPut, uPutA, uAug, uRaise, uVar, uC, uOp, uUn, uTru, uTst, uNot, uAnd, uOr, uAndV, uOrV, uNotV, uIf, uNil, uCons, argU, uTup, uLst, allD, onDs, onD, onT, onBool, oI, oIC, oAdd, oEq, oIsN, isN_none, isN_int, isN_bool, isN_str, isN_list, isN_tup, truD, oIx, uSl, uPart, uNoP, oSl, uCB, oLen, oList, oTuple, oInt, oAbs, oAll, oAny, oSum, onB, onI, uIs, uIs2, isT, uCall, uCallP, pick, vw, vw1, okU, okX, nolU, nol, nols, startU, kOf, kQ, kT, onL, uSeqI, uRng1, uRng2, rOk, uEnum, uRep, uTupRev, uYes, ugN, ugT2, wipeU, setU, uIfQ, uRetQ, uSetQ, uPutQ, ixC, szD, List.map_cons, List.map_nil, List.length_cons, List.length_nil, List.replicate, List.cons_append, List.nil_append, List.getElem?_cons_zero, List.getElem?_cons_succ, List.set_cons_zero, List.set_cons_succ, Option.map_some, Option.map_none, List.getD, Option.getD_some, if_true, true_and, and_true, Nat.reduceAdd, Nat.reduceSub, reduceIte, Bool.false_eq_true, Bool.not_true, Bool.not_false, hw]
      exact hN _ ⟨w, s, i, c, none, rfl, w0, s0, i0⟩
theorem sc__law_same : FnScope ["_law_got", "_law_two", "_law_k"] ["_law_got", "_law_two"] (defScope s__law_same) := ⟨rfl, rfl, rfl, by decide +kernel, rfl, by decide +kernel, by decide +kernel⟩
mutual
/-- built of None, bools, whole numbers, short texts, tuples, lists: how deep -/
def dp : D → Nat
  | .tuple l => 1 + dps l
  | .list l => 1 + dps l
  | _ => 1
def dps : List D → Nat
  | [] => 0
  | x :: l => max (dp x) (dps l)
end
mutual
def pln : D → Bool
  | .tuple l => decide (l.length ≤ 16777216) && plns l
  | .list l => decide (l.length ≤ 16777216) && plns l
  | .str y => decide (y.length ≤ 16777216) && PyData.strOk y
  | .dict _ => false
  | _ => true
def plns : List D → Bool
  | [] => true
  | x :: l => pln x && plns l
end
theorem dps_get {l : List D} {i : Nat} {x : D} (h : l[i]? = some x) : dp x ≤ dps l := by
  induction l generalizing i with
  | nil => simp at h
  | cons a l ih =>
    cases i with
    | zero => simp at h; subst h; exact Nat.le_max_left _ _
    | succ i => exact Nat.le_trans (ih (by simpa using h)) (Nat.le_max_right _ _)
theorem plns_get {l : List D} {i : Nat} {x : D} (p : plns l = true) (h : l[i]? = some x) : pln x = true := by
  induction l generalizing i with
  | nil => simp at h
  | cons a l ih =>
    unfold plns at p
    simp at p
    cases i with
    | zero => simp at h; subst h; exact p.1
    | succ i => exact ih p.2 (by simpa using h)
def fl__law_same (d : Nat) : Fn := fun as P PX => ∃ x, as = [.d x, .d x] ∧ dp x ≤ d ∧ pln x = true ∧ P (.d (.bool true))
theorem fl__law_same_0 : ∀ as P PX, ¬ fl__law_same 0 as P PX := by
  rintro as P PX ⟨x, _, h, _⟩
  cases x <;> simp [dp] at h
abbrev fn__law_same : Fn := fl__law_same 6
theorem has__law_same (T : Tk P K mg) : ∃ fd, Has P w K mg base 7 "_law_same" s__law_same ["_law_got", "_law_two"] fn__law_same fd := by
  obtain ⟨fd, F⟩ := T.f__law_same
  have hb := F.binds (ps := ["_law_got", "_law_two"]) fun _ _ _ _ _ _ us hl => match us, hl with | [_, _], _ => rfl
  refine ⟨fd, ?_⟩
  have all : ∀ dd : Nat, Has P w K mg base (dd + 1) "_law_same" s__law_same ["_law_got", "_law_two"] (fl__law_same dd) fd := fun dd => by
    induction dd with
    | zero => exact ⟨T.g__law_same, F.kp, F, hb, has_false F sc__law_same fl__law_same_0⟩
    | succ dd ih =>
      refine ⟨T.g__law_same, F.kp, F, hb, fnD (k := dd + 1) F sc__law_same (by decide) fun cdv A outer s H E hr => ⟨_, _, (dss_cons (ds_if false (dt_truk (KK := K) (de_is2k (KK := K) .tup .lst (dv 1) rfl T.n_isinstance bt_isi rfl T.n_tuple bt_tuple rfl T.n_list bt_list)) (dss_cons (ds_if false (DW.dt (dw_or (dt_cmp (do_nek (KK := K) hr.units) (de_isk (KK := K) .tup (dv 0) rfl T.n_isinstance bt_isi rfl T.n_tuple bt_tuple) (de_isk (KK := K) .tup (dv 1) rfl T.n_isinstance bt_isi rfl T.n_tuple bt_tuple)) (dw_or1 (dt_cmp (do_nek (KK := K) hr.units) (de_isk (KK := K) .lst (dv 0) rfl T.n_isinstance bt_isi rfl T.n_list bt_list) (de_isk (KK := K) .lst (dv 1) rfl T.n_isinstance bt_isi rfl T.n_list bt_list))))) (dss_one (ds_ret false de_bl)) dss_nil)
    (dss_one (ds_ret false (de_andk (KK := K) (de_cmp (do_eqk (KK := K) hr.units) (de_callB (dc_lenk (KK := K)) rfl T.n_len bt_len (da_cons (dv 0) da_nil)) (de_callB (dc_lenk (KK := K)) rfl T.n_len bt_len (da_cons (dv 1) da_nil))) (de_one (de_callB (dc_allk (KK := K) rfl) rfl T.n_all bt_all (da_cons (de_lc rfl sc__law_same.nd (own := [("_law_k", 2)]) (di_rng1 (de_callB (dc_lenk (KK := K)) rfl T.n_len bt_len (da_cons (dv 1) da_nil)) rfl T.n_range) (blk_of (by kernel_rfl)) (fun _ _ _ _ _ => (dg_name 2 sc__law_same.nd)) (fun _ _ _ _ _ => dts_nil) (fun _ _ _ _ _ => (de_own ih ⟨rfl, rfl, rfl, rfl, rfl⟩ (hr.mono (by omega)) rfl air0 (da_cons (de_ixk (KK := K) (dv 0) (dv 2)) (da_cons (de_ixk (KK := K) (dv 1) (dv 2)) da_nil))))) da_nil))))))) dss_nil)
    (dss_cons (ds_if false (DW.dt (dw_or (dt_cmp (do_nek (KK := K) hr.units) (de_isk (KK := K) .bool (dv 0) rfl T.n_isinstance bt_isi rfl T.n_bool bt_bool) (de_isk (KK := K) .bool (dv 1) rfl T.n_isinstance bt_isi rfl T.n_bool bt_bool)) (dw_or1 (dt_cmp (do_nek (KK := K) hr.units) (de_cmp do_isN (dv 0) de_non) (de_cmp do_isN (dv 1) de_non))))) (dss_one (ds_ret false de_bl)) dss_nil)
    (dss_one (ds_ret false (de_andk (KK := K) (de_cmp (do_eqk (KK := K) hr.units) (de_isk (KK := K) .int (dv 0) rfl T.n_isinstance bt_isi rfl T.n_int bt_int) (de_isk (KK := K) .int (dv 1) rfl T.n_isinstance bt_isi rfl T.n_int bt_int)) (de_andk (KK := K) (de_cmp (do_eqk (KK := K) hr.units) (de_isk (KK := K) .str (dv 0) rfl T.n_isinstance bt_isi rfl T.n_str bt_str) (de_isk (KK := K) .str (dv 1) rfl T.n_isinstance bt_isi rfl T.n_str bt_str)) (de_one (de_cmp (do_eqk (KK := K) hr.units) (dv 0) (dv 1))))))))), ?_⟩⟩
      rintro as Q PX hl ⟨x, rfl, hd, hpl, hp⟩
      refine i_seq fun N hN => ?_
      cases x with
      | tuple l =>
        have hz : l.length ≤ 16777216 := by simp [pln] at hpl; exact hpl.1
        have hq : plns l = true := by simp [pln] at hpl; exact hpl.2
        have hd2 : dps l ≤ dd := by simp [dp] at hd; omega
        simp [uSeq, vw_jk, at_0, at_1, at_2, at_3, at_4, ix_40, ix_41, ix_42, ix_43, boolsD_comp, intsD_comp, sh_int, sh_bool, sh_none, sh_str, ev_int, ev_bool, ev_str, ev_none, ev_ni, ev_in, uIfS, evT, ev, uRet, uRetO, uRetN, uDrop, uSet, uSetO, uMove, uFrz, uNext, uBreak, uCont, uApp, uIns, uPut, uPutA, uAug, uRaise, uVar, uC, uOp, uUn, uTru, uTst, uNot, uAnd, uOr, uAndV, uOrV, uNotV, uIf, uNil, uCons, argU, uTup, uLst, allD, onDs, onD, onT, onBool, oI, oIC, oAdd, oEq, oIsN, isN_none, isN_int, isN_bool, isN_str, isN_list, isN_tup, truD, oIx, uSl, uPart, uNoP, oSl, uCB, oLen, oList, oTuple, oInt, oAbs, oAll, oAny, oSum, onB, onI, uIs, uIs2, isT, uCall, uCallP, pick, vw, vw1, okU, okX, nolU, nol, nols, startU, kOf, kQ, kT, onL, uSeqI, uRng1, uRng2, rOk, uEnum, uRep, uTupRev, uYes, ugN, ugT2, wipeU, setU, uIfQ, uRetQ, uSetQ, uPutQ, ixC, szD, List.map_cons, List.map_nil, List.length_cons, List.length_nil, List.replicate, List.cons_append, List.nil_append, List.getElem?_cons_zero, List.getElem?_cons_succ, List.set_cons_zero, List.set_cons_succ, Option.map_some, Option.map_none, List.getD, Option.getD_some, if_true, true_and, and_true, Nat.reduceAdd, Nat.reduceSub, reduceIte, Bool.false_eq_true, Bool.not_true, Bool.not_false]
        refine i_lc ?_
        simp [vw_jk, at_0, at_1, at_2, at_3, at_4, ix_40, ix_41, ix_42, ix_43, boolsD_comp, intsD_comp, sh_int, sh_bool, sh_none, sh_str, ev_int, ev_bool, ev_str, ev_none, ev_ni, ev_in, uIfS, evT, ev, uRet, uRetO, uRetN, uDrop, uSet, uSetO, uMove, uFrz, uNext, uBreak, uCont, uApp, uIns, uPut, uPutA, uAug, uRaise, uVar, uC, uOp, uUn, uTru, uTst, uNot, uAnd, uOr, uAndV, uOrV, uNotV, uIf, uNil, uCons, argU, uTup, uLst, allD, onDs, onD, onT, onBool, oI, oIC, oAdd, oEq, oIsN, isN_none, isN_int, isN_bool, isN_str, isN_list, isN_tup, truD, oIx, uSl, uPart, uNoP, oSl, uCB, oLen, oList, oTuple, oInt, oAbs, oAll, oAny, oSum, onB, onI, uIs, uIs2, isT, uCall, uCallP, pick, vw, vw1, okU, okX, nolU, nol, nols, startU, kOf, kQ, kT, onL, uSeqI, uRng1, uRng2, rOk, uEnum, uRep, uTupRev, uYes, ugN, ugT2, wipeU, setU, uIfQ, uRetQ, uSetQ, uPutQ, ixC, szD, List.map_cons, List.map_nil, List.length_cons, List.length_nil, List.replicate, List.cons_append, List.nil_append, List.getElem?_cons_zero, List.getElem?_cons_succ, List.set_cons_zero, List.set_cons_succ, Option.map_some, Option.map_none, List.getD, Option.getD_some, if_true, true_and, and_true, Nat.reduceAdd, Nat.reduceSub, reduceIte, Bool.false_eq_true, Bool.not_true, Bool.not_false]
        refine ⟨by omega, ?_⟩
        refine lc_fun (fun d => [.bool true]) (by rw [rngD_len]; exact lt_line hz) (fun i d e => ?_) ?_
        · obtain ⟨rfl, hi⟩ := get_rngD e
          have hx := List.getElem?_eq_getElem hi
          have ha : atI l (0 + (i : Int)) = some l[i] := atI_nat (n := i) (by omega) hx
          refine ⟨_, rfl, by simp, fun acc J hJ => ?_⟩
          simp only [vw_jk, at_0, at_1, at_2, at_3, at_4, ix_40, ix_41, ix_42, ix_43, boolsD_comp, intsD_comp, sh_int, sh_bool, sh_none, sh_str, ev_int, ev_bool, ev_str, ev_none, ev_ni, ev_in, uIfS, evT, ev, uRet, uRetO, uRetN, uDrop, uSet, uSetO, uMove, uFrz, uNext, uBreak, uCont, uApp, uIns, uPut, uPutA, uAug, uRaise, uVar, uC, uOp, uUn, uTru, uTst, uNot, uAnd, uOr, uAndV, uOrV, uNotV, uIf, uNil, uCons, argU, uTup, uLst, allD, onDs, onD, onT, onBool, oI, oIC, oAdd, oEq, oIsN, isN_none, isN_int, isN_bool, isN_str, isN_list, isN_tup, truD, oIx, uSl, uPart, uNoP, oSl, uCB, oLen, oList, oTuple, oInt, oAbs, oAll, oAny, oSum, onB, onI, uIs, uIs2, isT, uCall, uCallP, pick, vw, vw1, okU, okX, nolU, nol, nols, startU, kOf, kQ, kT, onL, uSeqI, uRng1, uRng2, rOk, uEnum, uRep, uTupRev, uYes, ugN, ugT2, wipeU, setU, uIfQ, uRetQ, uSetQ, uPutQ, ixC, szD, List.map_cons, List.map_nil, List.length_cons, List.length_nil, List.replicate, List.cons_append, List.nil_append, List.getElem?_cons_zero, List.getElem?_cons_succ, List.set_cons_zero, List.set_cons_succ, Option.map_some, Option.map_none, List.getD, Option.getD_some, if_true, true_and, and_true, Nat.reduceAdd, Nat.reduceSub, reduceIte, Bool.false_eq_true, Bool.not_true, Bool.not_false, ha]
          exact ⟨_, rfl, Nat.le_trans (dps_get hx) hd2, plns_get hq hx, hJ⟩
        · rw [show (rngD 0 l.length).flatMap (fun d => [PyData.bool true]) = ((rngD 0 l.length).map fun _ => true).map PyData.bool from by rw [flat_one, List.map_map]; rfl]
          simp [vw_jk, at_0, at_1, at_2, at_3, at_4, ix_40, ix_41, ix_42, ix_43, boolsD_comp, intsD_comp, sh_int, sh_bool, sh_none, sh_str, ev_int, ev_bool, ev_str, ev_none, ev_ni, ev_in, uIfS, evT, ev, uRet, uRetO, uRetN, uDrop, uSet, uSetO, uMove, uFrz, uNext, uBreak, uCont, uApp, uIns, uPut, uPutA, uAug, uRaise, uVar, uC, uOp, uUn, uTru, uTst, uNot, uAnd, uOr, uAndV, uOrV, uNotV, uIf, uNil, uCons, argU, uTup, uLst, allD, onDs, onD, onT, onBool, oI, oIC, oAdd, oEq, oIsN, isN_none, isN_int, isN_bool, isN_str, isN_list, isN_tup, truD, oIx, uSl, uPart, uNoP, oSl, uCB, oLen, oList, oTuple, oInt, oAbs, oAll, oAny, oSum, onB, onI, uIs, uIs2, isT, uCall, uCallP, pick, vw, vw1, okU, okX, nolU, nol, nols, startU, kOf, kQ, kT, onL, uSeqI, uRng1, uRng2, rOk, uEnum, uRep, uTupRev, uYes, ugN, ugT2, wipeU, setU, uIfQ, uRetQ, uSetQ, uPutQ, ixC, szD, List.map_cons, List.map_nil, List.length_cons, List.length_nil, List.replicate, List.cons_append, List.nil_append, List.getElem?_cons_zero, List.getElem?_cons_succ, List.set_cons_zero, List.set_cons_succ, Option.map_some, Option.map_none, List.getD, Option.getD_some, if_true, true_and, and_true, Nat.reduceAdd, Nat.reduceSub, reduceIte, Bool.false_eq_true, Bool.not_true, Bool.not_false, boolsD_map]
          rw [show ((rngD 0 l.length).all fun x => true) = true from List.all_eq_true.mpr fun _ _ => rfl]
          exact hp
      | list l =>
        have hz : l.length ≤ 16777216 := by simp [pln] at hpl; exact hpl.1
        have hq : plns l = true := by simp [pln] at hpl; exact hpl.2
        have hd2 : dps l ≤ dd := by simp [dp] at hd; omega
        simp [uSeq, vw_jk, at_0, at_1, at_2, at_3, at_4, ix_40, ix_41, ix_42, ix_43, boolsD_comp, intsD_comp, sh_int, sh_bool, sh_none, sh_str, ev_int, ev_bool, ev_str, ev_none, ev_ni, ev_in, uIfS, evT, ev, uRet, uRetO, uRetN, uDrop, uSet, uSetO, uMove, uFrz, uNext, uBreak, uCont, uApp, uIns, uPut, uPutA, uAug, uRaise, uVar, uC, uOp, uUn, uTru, uTst, uNot, uAnd, uOr, uAndV, uOrV, uNotV, uIf, uNil, uCons, argU, uTup, uLst, allD, onDs, onD, onT, onBool, oI, oIC, oAdd, oEq, oIsN, isN_none, isN_int, isN_bool, isN_str, isN_list, isN_tup, truD, oIx, uSl, uPart, uNoP, oSl, uCB, oLen, oList, oTuple, oInt, oAbs, oAll, oAny, oSum, onB, onI, uIs, uIs2, isT, uCall, uCallP, pick, vw, vw1, okU, okX, nolU, nol, nols, startU, kOf, kQ, kT, onL, uSeqI, uRng1, uRng2, rOk, uEnum, uRep, uTupRev, uYes, ugN, ugT2, wipeU, setU, uIfQ, uRetQ, uSetQ, uPutQ, ixC, szD, List.map_cons, List.map_nil, List.length_cons, List.length_nil, List.replicate, List.cons_append, List.nil_append, List.getElem?_cons_zero, List.getElem?_cons_succ, List.set_cons_zero, List.set_cons_succ, Option.map_some, Option.map_none, List.getD, Option.getD_some, if_true, true_and, and_true, Nat.reduceAdd, Nat.reduceSub, reduceIte, Bool.false_eq_true, Bool.not_true, Bool.not_false]
        refine i_lc ?_
        simp [vw_jk, at_0, at_1, at_2, at_3, at_4, ix_40, ix_41, ix_42, ix_43, boolsD_comp, intsD_comp, sh_int, sh_bool, sh_none, sh_str, ev_int, ev_bool, ev_str, ev_none, ev_ni, ev_in, uIfS, evT, ev, uRet, uRetO, uRetN, uDrop, uSet, uSetO, uMove, uFrz, uNext, uBreak, uCont, uApp, uIns, uPut, uPutA, uAug, uRaise, uVar, uC, uOp, uUn, uTru, uTst, uNot, uAnd, uOr, uAndV, uOrV, uNotV, uIf, uNil, uCons, argU, uTup, uLst, allD, onDs, onD, onT, onBool, oI, oIC, oAdd, oEq, oIsN, isN_none, isN_int, isN_bool, isN_str, isN_list, isN_tup, truD, oIx, uSl, uPart, uNoP, oSl, uCB, oLen, oList, oTuple, oInt, oAbs, oAll, oAny, oSum, onB, onI, uIs, uIs2, isT, uCall, uCallP, pick, vw, vw1, okU, okX, nolU, nol, nols, startU, kOf, kQ, kT, onL, uSeqI, uRng1, uRng2, rOk, uEnum, uRep, uTupRev, uYes, ugN, ugT2, wipeU, setU, uIfQ, uRetQ, uSetQ, uPutQ, ixC, szD, List.map_cons, List.map_nil, List.length_cons, List.length_nil, List.replicate, List.cons_append, List.nil_append, List.getElem?_cons_zero, List.getElem?_cons_succ, List.set_cons_zero, List.set_cons_succ, Option.map_some, Option.map_none, List.getD, Option.getD_some, if_true, true_and, and_true, Nat.reduceAdd, Nat.reduceSub, reduceIte, Bool.false_eq_true, Bool.not_true, Bool.not_false]
        refine ⟨by omega, ?_⟩
        refine lc_fun (fun d => [.bool true]) (by rw [rngD_len]; exact lt_line hz) (fun i d e => ?_) ?_
        · obtain ⟨rfl, hi⟩ := get_rngD e
          have hx := List.getElem?_eq_getElem hi
          have ha : atI l (0 + (i : Int)) = some l[i] := atI_nat (n := i) (by omega) hx
          refine ⟨_, rfl, by simp, fun acc J hJ => ?_⟩
          simp only [vw_jk, at_0, at_1, at_2, at_3, at_4, ix_40, ix_41, ix_42, ix_43, boolsD_comp, intsD_comp, sh_int, sh_bool, sh_none, sh_str, ev_int, ev_bool, ev_str, ev_none, ev_ni, ev_in, uIfS, evT, ev, uRet, uRetO, uRetN, uDrop, uSet, uSetO, uMove, uFrz, uNext, uBreak, uCont, uApp, uIns, uPut, uPutA, uAug, uRaise, uVar, uC, uOp, uUn, uTru, uTst, uNot, uAnd, uOr, uAndV, uOrV, uNotV, uIf, uNil, uCons, argU, uTup, uLst, allD, onDs, onD, onT, onBool, oI, oIC, oAdd, oEq, oIsN, isN_none, isN_int, isN_bool, isN_str, isN_list, isN_tup, truD, oIx, uSl, uPart, uNoP, oSl, uCB, oLen, oList, oTuple, oInt, oAbs, oAll, oAny, oSum, onB, onI, uIs, uIs2, isT, uCall, uCallP, pick, vw, vw1, okU, okX, nolU, nol, nols, startU, kOf, kQ, kT, onL, uSeqI, uRng1, uRng2, rOk, uEnum, uRep, uTupRev, uYes, ugN, ugT2, wipeU, setU, uIfQ, uRetQ, uSetQ, uPutQ, ixC, szD, List.map_cons, List.map_nil, List.length_cons, List.length_nil, List.replicate, List.cons_append, List.nil_append, List.getElem?_cons_zero, List.getElem?_cons_succ, List.set_cons_zero, List.set_cons_succ, Option.map_some, Option.map_none, List.getD, Option.getD_some, if_true, true_and, and_true, Nat.reduceAdd, Nat.reduceSub, reduceIte, Bool.false_eq_true, Bool.not_true, Bool.not_false, ha]
          exact ⟨_, rfl, Nat.le_trans (dps_get hx) hd2, plns_get hq hx, hJ⟩
        · rw [show (rngD 0 l.length).flatMap (fun d => [PyData.bool true]) = ((rngD 0 l.length).map fun _ => true).map PyData.bool from by rw [flat_one, List.map_map]; rfl]
          simp [vw_jk, at_0, at_1, at_2, at_3, at_4, ix_40, ix_41, ix_42, ix_43, boolsD_comp, intsD_comp, sh_int, sh_bool, sh_none, sh_str, ev_int, ev_bool, ev_str, ev_none, ev_ni, ev_in, uIfS, evT, ev, uRet, uRetO, uRetN, uDrop, uSet, uSetO, uMove, uFrz, uNext, uBreak, uCont, uApp, uIns, uPut, uPutA, uAug, uRaise, uVar, uC, uOp, uUn, uTru, uTst, uNot, uAnd, uOr, uAndV, uOrV, uNotV, uIf, uNil, uCons, argU, uTup, uLst, allD, onDs, onD, onT, onBool, oI, oIC, oAdd, oEq, oIsN, isN_none, isN_int, isN_bool, isN_str, isN_list, isN_tup, truD, oIx, uSl, uPart, uNoP, oSl, uCB, oLen, oList, oTuple, oInt, oAbs, oAll, oAny, oSum, onB, onI, uIs, uIs2, isT, uCall, uCallP, pick, vw, vw1, okU, okX, nolU, nol, nols, startU, kOf, kQ, kT, onL, uSeqI, uRng1, uRng2, rOk, uEnum, uRep, uTupRev, uYes, ugN, ugT2, wipeU, setU, uIfQ, uRetQ, uSetQ, uPutQ, ixC, szD, List.map_cons, List.map_nil, List.length_cons, List.length_nil, List.replicate, List.cons_append, List.nil_append, List.getElem?_cons_zero, List.getElem?_cons_succ, List.set_cons_zero, List.set_cons_succ, Option.map_some, Option.map_none, List.getD, Option.getD_some, if_true, true_and, and_true, Nat.reduceAdd, Nat.reduceSub, reduceIte, Bool.false_eq_true, Bool.not_true, Bool.not_false, boolsD_map]
          rw [show ((rngD 0 l.length).all fun x => true) = true from List.all_eq_true.mpr fun _ _ => rfl]
          exact hp
      | none =>
        simp [vw_jk, at_0, at_1, at_2, at_3, at_4, ix_40, ix_41, ix_42, ix_43, boolsD_comp, intsD_comp, sh_int, sh_bool, sh_none, sh_str, ev_int, ev_bool, ev_str, ev_none, ev_ni, ev_in, uIfS, evT, ev, uRet, uRetO, uRetN, uDrop, uSet, uSetO, uMove, uFrz, uNext, uBreak, uCont, uApp, uIns, uPut, uPutA, uAug, uRaise, uVar, uC, uOp, uUn, uTru, uTst, uNot, uAnd, uOr, uAndV, uOrV, uNotV, uIf, uNil, uCons, argU, uTup, uLst, allD, onDs, onD, onT, onBool, oI, oIC, oAdd, oEq, oIsN, isN_none, isN_int, isN_bool, isN_str, isN_list, isN_tup, truD, oIx, uSl, uPart, uNoP, oSl, uCB, oLen, oList, oTuple, oInt, oAbs, oAll, oAny, oSum, onB, onI, uIs, uIs2, isT, uCall, uCallP, pick, vw, vw1, okU, okX, nolU, nol, nols, startU, kOf, kQ, kT, onL, uSeqI, uRng1, uRng2, rOk, uEnum, uRep, uTupRev, uYes, ugN, ugT2, wipeU, setU, uIfQ, uRetQ, uSetQ, uPutQ, ixC, szD, List.map_cons, List.map_nil, List.length_cons, List.length_nil, List.replicate, List.cons_append, List.nil_append, List.getElem?_cons_zero, List.getElem?_cons_succ, List.set_cons_zero, List.set_cons_succ, Option.map_some, Option.map_none, List.getD, Option.getD_some, if_true, true_and, and_true, Nat.reduceAdd, Nat.reduceSub, reduceIte, Bool.false_eq_true, Bool.not_true, Bool.not_false]
        rw [hN]
        simp [uSeq, vw_jk, at_0, at_1, at_2, at_3, at_4, ix_40, ix_41, ix_42, ix_43, boolsD_comp, intsD_comp, sh_int, sh_bool, sh_none, sh_str, ev_int, ev_bool, ev_str, ev_none, ev_ni, ev_in, uIfS, evT, ev, uRet, uRetO, uRetN, uDrop, uSet, uSetO, uMove, uFrz, uNext, uBreak, uCont, uApp, uIns, uPut, uPutA, uAug, uRaise, uVar, uC, uOp, uUn, uTru, uTst, uNot, uAnd, uOr, uAndV, uOrV, uNotV, uIf, uNil, uCons, argU, uTup, uLst, allD, onDs, onD, onT, onBool, oI, oIC, oAdd, oEq, oIsN, isN_none, isN_int, isN_bool, isN_str, isN_list, isN_tup, truD, oIx, uSl, uPart, uNoP, oSl, uCB, oLen, oList, oTuple, oInt, oAbs, oAll, oAny, oSum, onB, onI, uIs, uIs2, isT, uCall, uCallP, pick, vw, vw1, okU, okX, nolU, nol, nols, startU, kOf, kQ, kT, onL, uSeqI, uRng1, uRng2, rOk, uEnum, uRep, uTupRev, uYes, ugN, ugT2, wipeU, setU, uIfQ, uRetQ, uSetQ, uPutQ, ixC, szD, List.map_cons, List.map_nil, List.length_cons, List.length_nil, List.replicate, List.cons_append, List.nil_append, List.getElem?_cons_zero, List.getElem?_cons_succ, List.set_cons_zero, List.set_cons_succ, Option.map_some, Option.map_none, List.getD, Option.getD_some, if_true, true_and, and_true, Nat.reduceAdd, Nat.reduceSub, reduceIte, Bool.false_eq_true, Bool.not_true, Bool.not_false]
        exact hp
      | bool b =>
        simp [vw_jk, at_0, at_1, at_2, at_3, at_4, ix_40, ix_41, ix_42, ix_43, boolsD_comp, intsD_comp, sh_int, sh_bool, sh_none, sh_str, ev_int, ev_bool, ev_str, ev_none, ev_ni, ev_in, uIfS, evT, ev, uRet, uRetO, uRetN, uDrop, uSet, uSetO, uMove, uFrz, uNext, uBreak, uCont, uApp, uIns, uPut, uPutA, uAug, uRaise, uVar, uC, uOp, uUn, uTru, uTst, uNot, uAnd, uOr, uAndV, uOrV, uNotV, uIf, uNil, uCons, argU, uTup, uLst, allD, onDs, onD, onT, onBool, oI, oIC, oAdd, oEq, oIsN, isN_none, isN_int, isN_bool, isN_str, isN_list, isN_tup, truD, oIx, uSl, uPart, uNoP, oSl, uCB, oLen, oList, oTuple, oInt, oAbs, oAll, oAny, oSum, onB, onI, uIs, uIs2, isT, uCall, uCallP, pick, vw, vw1, okU, okX, nolU, nol, nols, startU, kOf, kQ, kT, onL, uSeqI, uRng1, uRng2, rOk, uEnum, uRep, uTupRev, uYes, ugN, ugT2, wipeU, setU, uIfQ, uRetQ, uSetQ, uPutQ, ixC, szD, List.map_cons, List.map_nil, List.length_cons, List.length_nil, List.replicate, List.cons_append, List.nil_append, List.getElem?_cons_zero, List.getElem?_cons_succ, List.set_cons_zero, List.set_cons_succ, Option.map_some, Option.map_none, List.getD, Option.getD_some, if_true, true_and, and_true, Nat.reduceAdd, Nat.reduceSub, reduceIte, Bool.false_eq_true, Bool.not_true, Bool.not_false]
        rw [hN]
        simp [uSeq, vw_jk, at_0, at_1, at_2, at_3, at_4, ix_40, ix_41, ix_42, ix_43, boolsD_comp, intsD_comp, sh_int, sh_bool, sh_none, sh_str, ev_int, ev_bool, ev_str, ev_none, ev_ni, ev_in, uIfS, evT, ev, uRet, uRetO, uRetN, uDrop, uSet, uSetO, uMove, uFrz, uNext, uBreak, uCont, uApp, uIns, uPut, uPutA, uAug, uRaise, uVar, uC, uOp, uUn, uTru, uTst, uNot, uAnd, uOr, uAndV, uOrV, uNotV, uIf, uNil, uCons, argU, uTup, uLst, allD, onDs, onD, onT, onBool, oI, oIC, oAdd, oEq, oIsN, isN_none, isN_int, isN_bool, isN_str, isN_list, isN_tup, truD, oIx, uSl, uPart, uNoP, oSl, uCB, oLen, oList, oTuple, oInt, oAbs, oAll, oAny, oSum, onB, onI, uIs, uIs2, isT, uCall, uCallP, pick, vw, vw1, okU, okX, nolU, nol, nols, startU, kOf, kQ, kT, onL, uSeqI, uRng1, uRng2, rOk, uEnum, uRep, uTupRev, uYes, ugN, ugT2, wipeU, setU, uIfQ, uRetQ, uSetQ, uPutQ, ixC, szD, List.map_cons, List.map_nil, List.length_cons, List.length_nil, List.replicate, List.cons_append, List.nil_append, List.getElem?_cons_zero, List.getElem?_cons_succ, List.set_cons_zero, List.set_cons_succ, Option.map_some, Option.map_none, List.getD, Option.getD_some, if_true, true_and, and_true, Nat.reduceAdd, Nat.reduceSub, reduceIte, Bool.false_eq_true, Bool.not_true, Bool.not_false]
        exact hp
      | int b =>
        simp [vw_jk, at_0, at_1, at_2, at_3, at_4, ix_40, ix_41, ix_42, ix_43, boolsD_comp, intsD_comp, sh_int, sh_bool, sh_none, sh_str, ev_int, ev_bool, ev_str, ev_none, ev_ni, ev_in, uIfS, evT, ev, uRet, uRetO, uRetN, uDrop, uSet, uSetO, uMove, uFrz, uNext, uBreak, uCont, uApp, uIns, uPut, uPutA, uAug, uRaise, uVar, uC, uOp, uUn, uTru, uTst, uNot, uAnd, uOr, uAndV, uOrV, uNotV, uIf, uNil, uCons, argU, uTup, uLst, allD, onDs, onD, onT, onBool, oI, oIC, oAdd, oEq, oIsN, isN_none, isN_int, isN_bool, isN_str, isN_list, isN_tup, truD, oIx, uSl, uPart, uNoP, oSl, uCB, oLen, oList, oTuple, oInt, oAbs, oAll, oAny, oSum, onB, onI, uIs, uIs2, isT, uCall, uCallP, pick, vw, vw1, okU, okX, nolU, nol, nols, startU, kOf, kQ, kT, onL, uSeqI, uRng1, uRng2, rOk, uEnum, uRep, uTupRev, uYes, ugN, ugT2, wipeU, setU, uIfQ, uRetQ, uSetQ, uPutQ, ixC, szD, List.map_cons, List.map_nil, List.length_cons, List.length_nil, List.replicate, List.cons_append, List.nil_append, List.getElem?_cons_zero, List.getElem?_cons_succ, List.set_cons_zero, List.set_cons_succ, Option.map_some, Option.map_none, List.getD, Option.getD_some, if_true, true_and, and_true, Nat.reduceAdd, Nat.reduceSub, reduceIte, Bool.false_eq_true, Bool.not_true, Bool.not_false]
        rw [hN]
        simp [uSeq, vw_jk, at_0, at_1, at_2, at_3, at_4, ix_40, ix_41, ix_42, ix_43, boolsD_comp, intsD_comp, sh_int, sh_bool, sh_none, sh_str, ev_int, ev_bool, ev_str, ev_none, ev_ni, ev_in, uIfS, evT, ev, uRet, uRetO, uRetN, uDrop, uSet, uSetO, uMove, uFrz, uNext, uBreak, uCont, uApp, uIns, uPut, uPutA, uAug, uRaise, uVar, uC, uOp, uUn, uTru, uTst, uNot, uAnd, uOr, uAndV, uOrV, uNotV, uIf, uNil, uCons, argU, uTup, uLst, allD, onDs, onD, onT, onBool, oI, oIC, oAdd, oEq, oIsN, isN_none, isN_int, isN_bool, isN_str, isN_list, isN_tup, truD, oIx, uSl, uPart, uNoP, oSl, uCB, oLen, oList, oTuple, oInt, oAbs, oAll, oAny, oSum, onB, onI, uIs, uIs2, isT, uCall, uCallP, pick, vw, vw1, okU, okX, nolU, nol, nols, startU, kOf, kQ, kT, onL, uSeqI, uRng1, uRng2, rOk, uEnum, uRep, uTupRev, uYes, ugN, ugT2, wipeU, setU, uIfQ, uRetQ, uSetQ, uPutQ, ixC, szD, List.map_cons, List.map_nil, List.length_cons, List.length_nil, List.replicate, List.cons_append, List.nil_append, List.getElem?_cons_zero, List.getElem?_cons_succ, List.set_cons_zero, List.set_cons_succ, Option.map_some, Option.map_none, List.getD, Option.getD_some, if_true, true_and, and_true, Nat.reduceAdd, Nat.reduceSub, reduceIte, Bool.false_eq_true, Bool.not_true, Bool.not_false]
        exact hp
      | str b =>
        have hz : PyData.strOk b = true := by simp [pln] at hpl; exact hpl.2
        simp [vw_jk, at_0, at_1, at_2, at_3, at_4, ix_40, ix_41, ix_42, ix_43, boolsD_comp, intsD_comp, sh_int, sh_bool, sh_none, sh_str, ev_int, ev_bool, ev_str, ev_none, ev_ni, ev_in, uIfS, evT, ev, uRet, uRetO, uRetN, uDrop, uSet, uSetO, uMove, uFrz, uNext, uBreak, uCont, uApp, uIns, uPut, uPutA, uAug, uRaise, uVar, uC, uOp, uUn, uTru, uTst, uNot, uAnd, uOr, uAndV, uOrV, uNotV, uIf, uNil, uCons, argU, uTup, uLst, allD, onDs, onD, onT, onBool, oI, oIC, oAdd, oEq, oIsN, isN_none, isN_int, isN_bool, isN_str, isN_list, isN_tup, truD, oIx, uSl, uPart, uNoP, oSl, uCB, oLen, oList, oTuple, oInt, oAbs, oAll, oAny, oSum, onB, onI, uIs, uIs2, isT, uCall, uCallP, pick, vw, vw1, okU, okX, nolU, nol, nols, startU, kOf, kQ, kT, onL, uSeqI, uRng1, uRng2, rOk, uEnum, uRep, uTupRev, uYes, ugN, ugT2, wipeU, setU, uIfQ, uRetQ, uSetQ, uPutQ, ixC, szD, List.map_cons, List.map_nil, List.length_cons, List.length_nil, List.replicate, List.cons_append, List.nil_append, List.getElem?_cons_zero, List.getElem?_cons_succ, List.set_cons_zero, List.set_cons_succ, Option.map_some, Option.map_none, List.getD, Option.getD_some, if_true, true_and, and_true, Nat.reduceAdd, Nat.reduceSub, reduceIte, Bool.false_eq_true, Bool.not_true, Bool.not_false]
        rw [hN]
        simp [uSeq, vw_jk, at_0, at_1, at_2, at_3, at_4, ix_40, ix_41, ix_42, ix_43, boolsD_comp, intsD_comp, sh_int, sh_bool, sh_none, sh_str, ev_int, ev_bool, ev_str, ev_none, ev_ni, ev_in, uIfS, evT, ev, uRet, uRetO, uRetN, uDrop, uSet, uSetO, uMove, uFrz, uNext, uBreak, uCont, uApp, uIns, uPut, uPutA, uAug, uRaise, uVar, uC, uOp, uUn, uTru, uTst, uNot, uAnd, uOr, uAndV, uOrV, uNotV, uIf, uNil, uCons, argU, uTup, uLst, allD, onDs, onD, onT, onBool, oI, oIC, oAdd, oEq, oIsN, isN_none, isN_int, isN_bool, isN_str, isN_list, isN_tup, truD, oIx, uSl, uPart, uNoP, oSl, uCB, oLen, oList, oTuple, oInt, oAbs, oAll, oAny, oSum, onB, onI, uIs, uIs2, isT, uCall, uCallP, pick, vw, vw1, okU, okX, nolU, nol, nols, startU, kOf, kQ, kT, onL, uSeqI, uRng1, uRng2, rOk, uEnum, uRep, uTupRev, uYes, ugN, ugT2, wipeU, setU, uIfQ, uRetQ, uSetQ, uPutQ, ixC, szD, List.map_cons, List.map_nil, List.length_cons, List.length_nil, List.replicate, List.cons_append, List.nil_append, List.getElem?_cons_zero, List.getElem?_cons_succ, List.set_cons_zero, List.set_cons_succ, Option.map_some, Option.map_none, List.getD, Option.getD_some, if_true, true_and, and_true, Nat.reduceAdd, Nat.reduceSub, reduceIte, Bool.false_eq_true, Bool.not_true, Bool.not_false, hz]
        exact hp
      | dict l => cases hpl
  exact all 6
theorem sc__law_a_symbols : FnScope ["_law_hold", "_law_symbols", "_law_k", "_law_worth"] ["_law_hold"] (defScope s__law_a_symbols) := ⟨rfl, rfl, rfl, by decide +kernel, rfl, by decide +kernel, by decide +kernel⟩
def fn__law_a_symbols : Fn := fun as P PX => as = [.hold HVk] ∧ ∀ ns : List Int, 1 ≤ ns.length → ns.length ≤ 5 → P (.own (ns.map .int))
theorem has__law_a_symbols (T : Tk P K mg) {fd__law_take : FuncData} (h__law_take : Has P w K mg base 1 "_law_take" s__law_take ["_law_hold", "_law_many"] fn__law_take fd__law_take) : ∃ fd, Has P w K mg base 2 "_law_a_symbols" s__law_a_symbols ["_law_hold"] fn__law_a_symbols fd := by
  obtain ⟨fd, F⟩ := T.f__law_a_symbols
  have hb := F.binds (ps := ["_law_hold"]) fun _ _ _ _ _ _ us hl => match us, hl with | [_], _ => rfl
  refine ⟨fd, T.g__law_a_symbols, F.kp, F, hb, fnD F sc__law_a_symbols (by decide) fun cdv A outer s H E hr => ⟨_, _, (dss_cons (ds_setO false 1 (de_lst da_nil) sc__law_a_symbols.nd)
    (dss_cons (ds_for poD rfl (di_rng1 (de_op (do_addk (KK := K)) de_int (de_own h__law_take ⟨rfl, rfl, rfl, rfl, rfl⟩ (hr.mono (by decide)) rfl airD (da_cons (dv 0) (da_cons de_int da_nil)))) rfl T.n_range) (dg_name 2 sc__law_a_symbols.nd) (dss_cons (ds_set false 3 (de_own h__law_take ⟨rfl, rfl, rfl, rfl, rfl⟩ (hr.mono (by decide)) rfl airD (da_cons (dv 0) (da_cons de_int da_nil))) sc__law_a_symbols.nd)
    (dss_cons (ds_if false (dt_cmp (do_eqk (KK := K) hr.units) (de_own h__law_take ⟨rfl, rfl, rfl, rfl, rfl⟩ (hr.mono (by decide)) rfl airD (da_cons (dv 0) (da_cons de_int da_nil))) de_int) (dss_one (ds_set false 3 (de_op (do_addk (KK := K)) (dv 3) (de_op do_mul (de_op do_mul (de_op do_pow de_int de_int) (de_own h__law_take ⟨rfl, rfl, rfl, rfl, rfl⟩ (hr.mono (by decide)) rfl airD (da_cons (dv 0) (da_cons (de_op do_pow de_int de_int) da_nil)))) (de_op do_pow de_int de_int))) sc__law_a_symbols.nd)) dss_nil)
    (dss_cons (ds_if false (dt_cmp (do_eqk (KK := K) hr.units) (de_own h__law_take ⟨rfl, rfl, rfl, rfl, rfl⟩ (hr.mono (by decide)) rfl airD (da_cons (dv 0) (da_cons de_int da_nil))) de_int) (dss_one (ds_set false 3 (de_un du_neg (dv 3)) sc__law_a_symbols.nd)) dss_nil)
    (dss_one (ds_appk (KK := K) false 1 (dv 3)))))))
    (dss_one (ds_retO 1)))), ?_⟩⟩
  rintro as Q PX hl ⟨rfl, hp⟩
  refine i_seq fun N hN => ?_
  simp [vw_jk, at_0, at_1, at_2, at_3, at_4, ix_40, ix_41, ix_42, ix_43, boolsD_comp, intsD_comp, sh_int, sh_bool, sh_none, sh_str, ev_int, ev_bool, ev_str, ev_none, ev_ni, ev_in, uIfS, evT, ev, uRet, uRetO, uRetN, uDrop, uSet, uSetO, uMove, uFrz, uNext, uBreak, uCont, uApp, uIns, uPut, uPutA, uAug, uRaise, uVar, uC, uOp, uUn, uTru, uTst, uNot, uAnd, uOr, uAndV, uOrV, uNotV, uIf, uNil, uCons, argU, uTup, uLst, allD, onDs, onD, onT, onBool, oI, oIC, oAdd, oEq, oIsN, isN_none, isN_int, isN_bool, isN_str, isN_list, isN_tup, truD, oIx, uSl, uPart, uNoP, oSl, uCB, oLen, oList, oTuple, oInt, oAbs, oAll, oAny, oSum, onB, onI, uIs, uIs2, isT, uCall, uCallP, pick, vw, vw1, okU, okX, nolU, nol, nols, startU, kOf, kQ, kT, onL, uSeqI, uRng1, uRng2, rOk, uEnum, uRep, uTupRev, uYes, ugN, ugT2, wipeU, setU, uIfQ, uRetQ, uSetQ, uPutQ, ixC, szD, List.map_cons, List.map_nil, List.length_cons, List.length_nil, List.replicate, List.cons_append, List.nil_append, List.getElem?_cons_zero, List.getElem?_cons_succ, List.set_cons_zero, List.set_cons_succ, Option.map_some, Option.map_none, List.getD, Option.getD_some, if_true, true_and, and_true, Nat.reduceAdd, Nat.reduceSub, reduceIte, Bool.false_eq_true, Bool.not_true, Bool.not_false]
  rw [hN]
  refine i_seq fun N2 hN2 => ?_
  refine i_for ?_
  simp [vw_jk, at_0, at_1, at_2, at_3, at_4, ix_40, ix_41, ix_42, ix_43, boolsD_comp, intsD_comp, sh_int, sh_bool, sh_none, sh_str, ev_int, ev_bool, ev_str, ev_none, ev_ni, ev_in, uIfS, evT, ev, uRet, uRetO, uRetN, uDrop, uSet, uSetO, uMove, uFrz, uNext, uBreak, uCont, uApp, uIns, uPut, uPutA, uAug, uRaise, uVar, uC, uOp, uUn, uTru, uTst, uNot, uAnd, uOr, uAndV, uOrV, uNotV, uIf, uNil, uCons, argU, uTup, uLst, allD, onDs, onD, onT, onBool, oI, oIC, oAdd, oEq, oIsN, isN_none, isN_int, isN_bool, isN_str, isN_list, isN_tup, truD, oIx, uSl, uPart, uNoP, oSl, uCB, oLen, oList, oTuple, oInt, oAbs, oAll, oAny, oSum, onB, onI, uIs, uIs2, isT, uCall, uCallP, pick, vw, vw1, okU, okX, nolU, nol, nols, startU, kOf, kQ, kT, onL, uSeqI, uRng1, uRng2, rOk, uEnum, uRep, uTupRev, uYes, ugN, ugT2, wipeU, setU, uIfQ, uRetQ, uSetQ, uPutQ, ixC, szD, List.map_cons, List.map_nil, List.length_cons, List.length_nil, List.replicate, List.cons_append, List.nil_append, List.getElem?_cons_zero, List.getElem?_cons_succ, List.set_cons_zero, List.set_cons_succ, Option.map_some, Option.map_none, List.getD, Option.getD_some, if_true, true_and, and_true, Nat.reduceAdd, Nat.reduceSub, reduceIte, Bool.false_eq_true, Bool.not_true, Bool.not_false]
  refine tk (by decide) (by decide) fun n n0 n1 => ?_
  simp [vw_jk, at_0, at_1, at_2, at_3, at_4, ix_40, ix_41, ix_42, ix_43, boolsD_comp, intsD_comp, sh_int, sh_bool, sh_none, sh_str, ev_int, ev_bool, ev_str, ev_none, ev_ni, ev_in, uIfS, evT, ev, uRet, uRetO, uRetN, uDrop, uSet, uSetO, uMove, uFrz, uNext, uBreak, uCont, uApp, uIns, uPut, uPutA, uAug, uRaise, uVar, uC, uOp, uUn, uTru, uTst, uNot, uAnd, uOr, uAndV, uOrV, uNotV, uIf, uNil, uCons, argU, uTup, uLst, allD, onDs, onD, onT, onBool, oI, oIC, oAdd, oEq, oIsN, isN_none, isN_int, isN_bool, isN_str, isN_list, isN_tup, truD, oIx, uSl, uPart, uNoP, oSl, uCB, oLen, oList, oTuple, oInt, oAbs, oAll, oAny, oSum, onB, onI, uIs, uIs2, isT, uCall, uCallP, pick, vw, vw1, okU, okX, nolU, nol, nols, startU, kOf, kQ, kT, onL, uSeqI, uRng1, uRng2, rOk, uEnum, uRep, uTupRev, uYes, ugN, ugT2, wipeU, setU, uIfQ, uRetQ, uSetQ, uPutQ, ixC, szD, List.map_cons, List.map_nil, List.length_cons, List.length_nil, List.replicate, List.cons_append, List.nil_append, List.getElem?_cons_zero, List.getElem?_cons_succ, List.set_cons_zero, List.set_cons_succ, Option.map_some, Option.map_none, List.getD, Option.getD_some, if_true, true_and, and_true, Nat.reduceAdd, Nat.reduceSub, reduceIte, Bool.false_eq_true, Bool.not_true, Bool.not_false]
  refine ⟨⟨by omega, by omega⟩, fun i s' => ∃ (ns : List Int) (o o2 : Option U), s' = [some (.hold HVk), some (.own (ns.map .int)), o, o2] ∧ ns.length = i, ⟨[], none, none, rfl, rfl⟩, fun i d s' e hs => ?_, fun s' hs => ?_⟩
  · obtain ⟨ns, o, o2, rfl, hn⟩ := hs
    have hi := (List.getElem?_eq_some_iff.mp e).1
    rw [rngD_len] at hi
    refine i_seq fun N3 hN3 => ?_
    simp [vw_jk, at_0, at_1, at_2, at_3, at_4, ix_40, ix_41, ix_42, ix_43, boolsD_comp, intsD_comp, sh_int, sh_bool, sh_none, sh_str, ev_int, ev_bool, ev_str, ev_none, ev_ni, ev_in, uIfS, evT, ev, uRet, uRetO, uRetN, uDrop, uSet, uSetO, uMove, uFrz, uNext, uBreak, uCont, uApp, uIns, uPut, uPutA, uAug, uRaise, uVar, uC, uOp, uUn, uTru, uTst, uNot, uAnd, uOr, uAndV, uOrV, uNotV, uIf, uNil, uCons, argU, uTup, uLst, allD, onDs, onD, onT, onBool, oI, oIC, oAdd, oEq, oIsN, isN_none, isN_int, isN_bool, isN_str, isN_list, isN_tup, truD, oIx, uSl, uPart, uNoP, oSl, uCB, oLen, oList, oTuple, oInt, oAbs, oAll, oAny, oSum, onB, onI, uIs, uIs2, isT, uCall, uCallP, pick, vw, vw1, okU, okX, nolU, nol, nols, startU, kOf, kQ, kT, onL, uSeqI, uRng1, uRng2, rOk, uEnum, uRep, uTupRev, uYes, ugN, ugT2, wipeU, setU, uIfQ, uRetQ, uSetQ, uPutQ, ixC, szD, List.map_cons, List.map_nil, List.length_cons, List.length_nil, List.replicate, List.cons_append, List.nil_append, List.getElem?_cons_zero, List.getElem?_cons_succ, List.set_cons_zero, List.set_cons_succ, Option.map_some, Option.map_none, List.getD, Option.getD_some, if_true, true_and, and_true, Nat.reduceAdd, Nat.reduceSub, reduceIte, Bool.false_eq_true, Bool.not_true, Bool.not_false]
    refine tk (by decide) (by decide) fun a a0 a1 => ?_
    simp [vw_jk, at_0, at_1, at_2, at_3, at_4, ix_40, ix_41, ix_42, ix_43, boolsD_comp, intsD_comp, sh_int, sh_bool, sh_none, sh_str, ev_int, ev_bool, ev_str, ev_none, ev_ni, ev_in, uIfS, evT, ev, uRet, uRetO, uRetN, uDrop, uSet, uSetO, uMove, uFrz, uNext, uBreak, uCont, uApp, uIns, uPut, uPutA, uAug, uRaise, uVar, uC, uOp, uUn, uTru, uTst, uNot, uAnd, uOr, uAndV, uOrV, uNotV, uIf, uNil, uCons, argU, uTup, uLst, allD, onDs, onD, onT, onBool, oI, oIC, oAdd, oEq, oIsN, isN_none, isN_int, isN_bool, isN_str, isN_list, isN_tup, truD, oIx, uSl, uPart, uNoP, oSl, uCB, oLen, oList, oTuple, oInt, oAbs, oAll, oAny, oSum, onB, onI, uIs, uIs2, isT, uCall, uCallP, pick, vw, vw1, okU, okX, nolU, nol, nols, startU, kOf, kQ, kT, onL, uSeqI, uRng1, uRng2, rOk, uEnum, uRep, uTupRev, uYes, ugN, ugT2, wipeU, setU, uIfQ, uRetQ, uSetQ, uPutQ, ixC, szD, List.map_cons, List.map_nil, List.length_cons, List.length_nil, List.replicate, List.cons_append, List.nil_append, List.getElem?_cons_zero, List.getElem?_cons_succ, List.set_cons_zero, List.set_cons_succ, Option.map_some, Option.map_none, List.getD, Option.getD_some, if_true, true_and, and_true, Nat.reduceAdd, Nat.reduceSub, reduceIte, Bool.false_eq_true, Bool.not_true, Bool.not_false]
    rw [hN3]
    refine i_cut (fun s' => ∃ (z : Int) (o : Option U), s' = [some (.hold HVk), some (.own (ns.map .int)), o, some (.d (.int z))]) ?_ ?_
    · rintro s' ⟨z, o, rfl⟩
      refine i_cut (fun s' => ∃ (z : Int) (o : Option U), s' = [some (.hold HVk), some (.own (ns.map .int)), o, some (.d (.int z))]) ?_ ?_
      · rintro s' ⟨z, o, rfl⟩
        simp [vw_jk, at_0, at_1, at_2, at_3, at_4, ix_40, ix_41, ix_42, ix_43, boolsD_comp, intsD_comp, sh_int, sh_bool, sh_none, sh_str, ev_int, ev_bool, ev_str, ev_none, ev_ni, ev_in, uIfS, evT, ev, uRet, uRetO, uRetN, uDrop, uSet, uSetO, uMove, uFrz, uNext, uBreak, uCont, uApp, uIns, uPut, uPutA, uAug, uRaise, uVar, uC, uOp, uUn, uTru, uTst, uNot, uAnd, uOr, uAndV, uOrV, uNotV, uIf, uNil, uCons, argU, uTup, uLst, allD, onDs, onD, onT, onBool, oI, oIC, oAdd, oEq, oIsN, isN_none, isN_int, isN_bool, isN_str, isN_list, isN_tup, truD, oIx, uSl, uPart, uNoP, oSl, uCB, oLen, oList, oTuple, oInt, oAbs, oAll, oAny, oSum, onB, onI, uIs, uIs2, isT, uCall, uCallP, pick, vw, vw1, okU, okX, nolU, nol, nols, startU, kOf, kQ, kT, onL, uSeqI, uRng1, uRng2, rOk, uEnum, uRep, uTupRev, uYes, ugN, ugT2, wipeU, setU, uIfQ, uRetQ, uSetQ, uPutQ, ixC, szD, List.map_cons, List.map_nil, List.length_cons, List.length_nil, List.replicate, List.cons_append, List.nil_append, List.getElem?_cons_zero, List.getElem?_cons_succ, List.set_cons_zero, List.set_cons_succ, Option.map_some, Option.map_none, List.getD, Option.getD_some, if_true, true_and, and_true, Nat.reduceAdd, Nat.reduceSub, reduceIte, Bool.false_eq_true, Bool.not_true, Bool.not_false]
        refine ⟨lt_line' (by omega), ns ++ [z], ?_⟩
        simp [hn]
      · intro M hM
        simp [vw_jk, at_0, at_1, at_2, at_3, at_4, ix_40, ix_41, ix_42, ix_43, boolsD_comp, intsD_comp, sh_int, sh_bool, sh_none, sh_str, ev_int, ev_bool, ev_str, ev_none, ev_ni, ev_in, uIfS, evT, ev, uRet, uRetO, uRetN, uDrop, uSet, uSetO, uMove, uFrz, uNext, uBreak, uCont, uApp, uIns, uPut, uPutA, uAug, uRaise, uVar, uC, uOp, uUn, uTru, uTst, uNot, uAnd, uOr, uAndV, uOrV, uNotV, uIf, uNil, uCons, argU, uTup, uLst, allD, onDs, onD, onT, onBool, oI, oIC, oAdd, oEq, oIsN, isN_none, isN_int, isN_bool, isN_str, isN_list, isN_tup, truD, oIx, uSl, uPart, uNoP, oSl, uCB, oLen, oList, oTuple, oInt, oAbs, oAll, oAny, oSum, onB, onI, uIs, uIs2, isT, uCall, uCallP, pick, vw, vw1, okU, okX, nolU, nol, nols, startU, kOf, kQ, kT, onL, uSeqI, uRng1, uRng2, rOk, uEnum, uRep, uTupRev, uYes, ugN, ugT2, wipeU, setU, uIfQ, uRetQ, uSetQ, uPutQ, ixC, szD, List.map_cons, List.map_nil, List.length_cons, List.length_nil, List.replicate, List.cons_append, List.nil_append, List.getElem?_cons_zero, List.getElem?_cons_succ, List.set_cons_zero, List.set_cons_succ, Option.map_some, Option.map_none, List.getD, Option.getD_some, if_true, true_and, and_true, Nat.reduceAdd, Nat.reduceSub, reduceIte, Bool.false_eq_true, Bool.not_true, Bool.not_false]
        refine tk (by decide) (by decide) fun b b0 b1 => ?_
        simp [vw_jk, at_0, at_1, at_2, at_3, at_4, ix_40, ix_41, ix_42, ix_43, boolsD_comp, intsD_comp, sh_int, sh_bool, sh_none, sh_str, ev_int, ev_bool, ev_str, ev_none, ev_ni, ev_in, uIfS, evT, ev, uRet, uRetO, uRetN, uDrop, uSet, uSetO, uMove, uFrz, uNext, uBreak, uCont, uApp, uIns, uPut, uPutA, uAug, uRaise, uVar, uC, uOp, uUn, uTru, uTst, uNot, uAnd, uOr, uAndV, uOrV, uNotV, uIf, uNil, uCons, argU, uTup, uLst, allD, onDs, onD, onT, onBool, oI, oIC, oAdd, oEq, oIsN, isN_none, isN_int, isN_bool, isN_str, isN_list, isN_tup, truD, oIx, uSl, uPart, uNoP, oSl, uCB, oLen, oList, oTuple, oInt, oAbs, oAll, oAny, oSum, onB, onI, uIs, uIs2, isT, uCall, uCallP, pick, vw, vw1, okU, okX, nolU, nol, nols, startU, kOf, kQ, kT, onL, uSeqI, uRng1, uRng2, rOk, uEnum, uRep, uTupRev, uYes, ugN, ugT2, wipeU, setU, uIfQ, uRetQ, uSetQ, uPutQ, ixC, szD, List.map_cons, List.map_nil, List.length_cons, List.length_nil, List.replicate, List.cons_append, List.nil_append, List.getElem?_cons_zero, List.getElem?_cons_succ, List.set_cons_zero, List.set_cons_succ, Option.map_some, Option.map_none, List.getD, Option.getD_some, if_true, true_and, and_true, Nat.reduceAdd, Nat.reduceSub, reduceIte, Bool.false_eq_true, Bool.not_true, Bool.not_false]
        split
        · exact hM _ ⟨_, _, rfl⟩
        · exact hM _ ⟨_, _, rfl⟩
    · intro M hM
      simp [vw_jk, at_0, at_1, at_2, at_3, at_4, ix_40, ix_41, ix_42, ix_43, boolsD_comp, intsD_comp, sh_int, sh_bool, sh_none, sh_str, ev_int, ev_bool, ev_str, ev_none, ev_ni, ev_in, uIfS, evT, ev, uRet, uRetO, uRetN, uDrop, uSet, uSetO, uMove, uFrz, uNext, uBreak, uCont, uApp, uIns, uPut, uPutA, uAug, uRaise, uVar, uC, uOp, uUn, uTru, uTst, uNot, uAnd, uOr, uAndV, uOrV, uNotV, uIf, uNil, uCons, argU, uTup, uLst, allD, onDs, onD, onT, onBool, oI, oIC, oAdd, oEq, oIsN, isN_none, isN_int, isN_bool, isN_str, isN_list, isN_tup, truD, oIx, uSl, uPart, uNoP, oSl, uCB, oLen, oList, oTuple, oInt, oAbs, oAll, oAny, oSum, onB, onI, uIs, uIs2, isT, uCall, uCallP, pick, vw, vw1, okU, okX, nolU, nol, nols, startU, kOf, kQ, kT, onL, uSeqI, uRng1, uRng2, rOk, uEnum, uRep, uTupRev, uYes, ugN, ugT2, wipeU, setU, uIfQ, uRetQ, uSetQ, uPutQ, ixC, szD, List.map_cons, List.map_nil, List.length_cons, List.length_nil, List.replicate, List.cons_append, List.nil_append, List.getElem?_cons_zero, List.getElem?_cons_succ, List.set_cons_zero, List.set_cons_succ, Option.map_some, Option.map_none, List.getD, Option.getD_some, if_true, true_and, and_true, Nat.reduceAdd, Nat.reduceSub, reduceIte, Bool.false_eq_true, Bool.not_true, Bool.not_false]
      refine tk (by decide) (by decide) fun b b0 b1 => ?_
      simp [vw_jk, at_0, at_1, at_2, at_3, at_4, ix_40, ix_41, ix_42, ix_43, boolsD_comp, intsD_comp, sh_int, sh_bool, sh_none, sh_str, ev_int, ev_bool, ev_str, ev_none, ev_ni, ev_in, uIfS, evT, ev, uRet, uRetO, uRetN, uDrop, uSet, uSetO, uMove, uFrz, uNext, uBreak, uCont, uApp, uIns, uPut, uPutA, uAug, uRaise, uVar, uC, uOp, uUn, uTru, uTst, uNot, uAnd, uOr, uAndV, uOrV, uNotV, uIf, uNil, uCons, argU, uTup, uLst, allD, onDs, onD, onT, onBool, oI, oIC, oAdd, oEq, oIsN, isN_none, isN_int, isN_bool, isN_str, isN_list, isN_tup, truD, oIx, uSl, uPart, uNoP, oSl, uCB, oLen, oList, oTuple, oInt, oAbs, oAll, oAny, oSum, onB, onI, uIs, uIs2, isT, uCall, uCallP, pick, vw, vw1, okU, okX, nolU, nol, nols, startU, kOf, kQ, kT, onL, uSeqI, uRng1, uRng2, rOk, uEnum, uRep, uTupRev, uYes, ugN, ugT2, wipeU, setU, uIfQ, uRetQ, uSetQ, uPutQ, ixC, szD, List.map_cons, List.map_nil, List.length_cons, List.length_nil, List.replicate, List.cons_append, List.nil_append, List.getElem?_cons_zero, List.getElem?_cons_succ, List.set_cons_zero, List.set_cons_succ, Option.map_some, Option.map_none, List.getD, Option.getD_some, if_true, true_and, and_true, Nat.reduceAdd, Nat.reduceSub, reduceIte, Bool.false_eq_true, Bool.not_true, Bool.not_false]
      split
      · refine ⟨powS (by decide) (by decide) (by decide), powS (by decide) (by decide) (by decide), ?_⟩
        refine tk (by decide) (by decide) fun c c0 c1 => ?_
        simp [vw_jk, at_0, at_1, at_2, at_3, at_4, ix_40, ix_41, ix_42, ix_43, boolsD_comp, intsD_comp, sh_int, sh_bool, sh_none, sh_str, ev_int, ev_bool, ev_str, ev_none, ev_ni, ev_in, uIfS, evT, ev, uRet, uRetO, uRetN, uDrop, uSet, uSetO, uMove, uFrz, uNext, uBreak, uCont, uApp, uIns, uPut, uPutA, uAug, uRaise, uVar, uC, uOp, uUn, uTru, uTst, uNot, uAnd, uOr, uAndV, uOrV, uNotV, uIf, uNil, uCons, argU, uTup, uLst, allD, onDs, onD, onT, onBool, oI, oIC, oAdd, oEq, oIsN, isN_none, isN_int, isN_bool, isN_str, isN_list, isN_tup, truD, oIx, uSl, uPart, uNoP, oSl, uCB, oLen, oList, oTuple, oInt, oAbs, oAll, oAny, oSum, onB, onI, uIs, uIs2, isT, uCall, uCallP, pick, vw, vw1, okU, okX, nolU, nol, nols, startU, kOf, kQ, kT, onL, uSeqI, uRng1, uRng2, rOk, uEnum, uRep, uTupRev, uYes, ugN, ugT2, wipeU, setU, uIfQ, uRetQ, uSetQ, uPutQ, ixC, szD, List.map_cons, List.map_nil, List.length_cons, List.length_nil, List.replicate, List.cons_append, List.nil_append, List.getElem?_cons_zero, List.getElem?_cons_succ, List.set_cons_zero, List.set_cons_succ, Option.map_some, Option.map_none, List.getD, Option.getD_some, if_true, true_and, and_true, Nat.reduceAdd, Nat.reduceSub, reduceIte, Bool.false_eq_true, Bool.not_true, Bool.not_false]
        exact ⟨mulL (by decide), powS (by decide) (by decide) (by decide), mulW (by omega) (by decide), hM _ ⟨_, _, rfl⟩⟩
      · exact hM _ ⟨_, _, rfl⟩
  · obtain ⟨ns, o, o2, rfl, hn⟩ := hs
    rw [rngD_len] at hn
    rw [hN2]
    simp [vw_jk, at_0, at_1, at_2, at_3, at_4, ix_40, ix_41, ix_42, ix_43, boolsD_comp, intsD_comp, sh_int, sh_bool, sh_none, sh_str, ev_int, ev_bool, ev_str, ev_none, ev_ni, ev_in, uIfS, evT, ev, uRet, uRetO, uRetN, uDrop, uSet, uSetO, uMove, uFrz, uNext, uBreak, uCont, uApp, uIns, uPut, uPutA, uAug, uRaise, uVar, uC, uOp, uUn, uTru, uTst, uNot, uAnd, uOr, uAndV, uOrV, uNotV, uIf, uNil, uCons, argU, uTup, uLst, allD, onDs, onD, onT, onBool, oI, oIC, oAdd, oEq, oIsN, isN_none, isN_int, isN_bool, isN_str, isN_list, isN_tup, truD, oIx, uSl, uPart, uNoP, oSl, uCB, oLen, oList, oTuple, oInt, oAbs, oAll, oAny, oSum, onB, onI, uIs, uIs2, isT, uCall, uCallP, pick, vw, vw1, okU, okX, nolU, nol, nols, startU, kOf, kQ, kT, onL, uSeqI, uRng1, uRng2, rOk, uEnum, uRep, uTupRev, uYes, ugN, ugT2, wipeU, setU, uIfQ, uRetQ, uSetQ, uPutQ, ixC, szD, List.map_cons, List.map_nil, List.length_cons, List.length_nil, List.replicate, List.cons_append, List.nil_append, List.getElem?_cons_zero, List.getElem?_cons_succ, List.set_cons_zero, List.set_cons_succ, Option.map_some, Option.map_none, List.getD, Option.getD_some, if_true, true_and, and_true, Nat.reduceAdd, Nat.reduceSub, reduceIte, Bool.false_eq_true, Bool.not_true, Bool.not_false]
    exact hp ns (by omega) (by omega)
theorem sc__law_a_row : FnScope ["_law_hold", "_law_many", "_law_symbols", "_law_size", "_law_part", "_law_k"] ["_law_hold", "_law_many", "_law_symbols"] (defScope s__law_a_row) := ⟨rfl, rfl, rfl, by decide +kernel, rfl, by decide +kernel, by decide +kernel⟩
def fn__law_a_row : Fn := fun as P PX => ∃ (m : Int) (ns : List Int), as = [.hold HVk, .d (.int m), .d (.list (ns.map .int))] ∧ 0 < m ∧ m ≤ 1000 ∧ 1 ≤ ns.length ∧ ns.length ≤ 1000 ∧ ∀ r : List Int, (r.length : Int) = m → P (.d (.tuple (r.map .int)))
/-- a list of ints, item by item -/
theorem ints_of {l : List D} (h : ∀ (i : Nat) (y : D), l[i]? = some y → ∃ z : Int, y = .int z) : ∃ ns : List Int, l = ns.map .int := by
  induction l with
  | nil => exact ⟨[], rfl⟩
  | cons a l ih =>
    obtain ⟨z, rfl⟩ := h 0 a rfl
    obtain ⟨ns, rfl⟩ := ih fun i y e => h (i + 1) y (by simpa using e)
    exact ⟨z :: ns, rfl⟩
theorem at_ints {ns : List Int} {i : Int} (h0 : 0 ≤ i) (h1 : i < ns.length) : ∃ z : Int, atI (ns.map PyData.int) i = some (.int z) := by
  obtain ⟨x, h2, h3⟩ := at_nn (l := ns.map PyData.int) h0 (by simpa using h1)
  rw [List.getElem?_map] at h3
  obtain ⟨z, _, rfl⟩ := Option.map_eq_some_iff.mp h3
  exact ⟨z, h2⟩
theorem has__law_a_row (T : Tk P K mg) {fd__law_take : FuncData} (h__law_take : Has P w K mg base 1 "_law_take" s__law_take ["_law_hold", "_law_many"] fn__law_take fd__law_take) : ∃ fd, Has P w K mg base 2 "_law_a_row" s__law_a_row ["_law_hold", "_law_many", "_law_symbols"] fn__law_a_row fd := by
  obtain ⟨fd, F⟩ := T.f__law_a_row
  have hb := F.binds (ps := ["_law_hold", "_law_many", "_law_symbols"]) fun _ _ _ _ _ _ us hl => match us, hl with | [_, _, _], _ => rfl
  refine ⟨fd, T.g__law_a_row, F.kp, F, hb, fnD F sc__law_a_row (by decide) fun cdv A outer s H E hr => ⟨_, _, (dss_cons (ds_set false 3 (dv 1) sc__law_a_row.nd)
    (dss_cons (ds_if false (dt_cmp (do_eqk (KK := K) hr.units) (de_own h__law_take ⟨rfl, rfl, rfl, rfl, rfl⟩ (hr.mono (by decide)) rfl airD (da_cons (dv 0) (da_cons de_int da_nil))) de_int) (dss_one (ds_set false 3 (de_op (do_addk (KK := K)) de_int (de_own h__law_take ⟨rfl, rfl, rfl, rfl, rfl⟩ (hr.mono (by decide)) rfl airD (da_cons (dv 0) (da_cons (dv 1) da_nil)))) sc__law_a_row.nd)) dss_nil)
    (dss_cons (ds_set false 4 (de_lc rfl sc__law_a_row.nd (own := [("_law_k", 5)]) (di_rng1 (dv 3) rfl T.n_range) (blk_of (by kernel_rfl)) (fun _ _ _ _ _ => (dg_name 5 sc__law_a_row.nd)) (fun _ _ _ _ _ => dts_nil) (fun _ _ _ _ _ => (de_ixk (KK := K) (dv 2) (de_own h__law_take ⟨rfl, rfl, rfl, rfl, rfl⟩ (hr.mono (by decide)) rfl air0 (da_cons (dv 0) (da_cons (de_callB (dc_lenk (KK := K)) rfl T.n_len bt_len (da_cons (dv 2) da_nil)) da_nil)))))) sc__law_a_row.nd)
    (dss_one (ds_ret false (de_callTy (dc_tuplek (KK := K)) rfl T.n_tuple bt_tuple (da_cons (de_lc rfl sc__law_a_row.nd (own := [("_law_k", 5)]) (di_rng1 (dv 1) rfl T.n_range) (blk_of (by kernel_rfl)) (fun _ _ _ _ _ => (dg_name 5 sc__law_a_row.nd)) (fun _ _ _ _ _ => dts_nil) (fun _ _ _ _ _ => (de_ixk (KK := K) (dv 4) (de_op do_mod (de_callTy dc_int rfl T.n_int bt_int (da_cons (dv 5) da_nil)) (dv 3))))) da_nil))))))), ?_⟩⟩
  rintro as Q PX hl ⟨m, ns, rfl, hm, hm2, hn1, hn2, hp⟩
  refine i_seq fun N hN => ?_
  simp [vw_jk, at_0, at_1, at_2, at_3, at_4, ix_40, ix_41, ix_42, ix_43, boolsD_comp, intsD_comp, sh_int, sh_bool, sh_none, sh_str, ev_int, ev_bool, ev_str, ev_none, ev_ni, ev_in, uIfS, evT, ev, uRet, uRetO, uRetN, uDrop, uSet, uSetO, uMove, uFrz, uNext, uBreak, uCont, uApp, uIns, uPut, uPutA, uAug, uRaise, uVar, uC, uOp, uUn, uTru, uTst, uNot, uAnd, uOr, uAndV, uOrV, uNotV, uIf, uNil, uCons, argU, uTup, uLst, allD, onDs, onD, onT, onBool, oI, oIC, oAdd, oEq, oIsN, isN_none, isN_int, isN_bool, isN_str, isN_list, isN_tup, truD, oIx, uSl, uPart, uNoP, oSl, uCB, oLen, oList, oTuple, oInt, oAbs, oAll, oAny, oSum, onB, onI, uIs, uIs2, isT, uCall, uCallP, pick, vw, vw1, okU, okX, nolU, nol, nols, startU, kOf, kQ, kT, onL, uSeqI, uRng1, uRng2, rOk, uEnum, uRep, uTupRev, uYes, ugN, ugT2, wipeU, setU, uIfQ, uRetQ, uSetQ, uPutQ, ixC, szD, List.map_cons, List.map_nil, List.length_cons, List.length_nil, List.replicate, List.cons_append, List.nil_append, List.getElem?_cons_zero, List.getElem?_cons_succ, List.set_cons_zero, List.set_cons_succ, Option.map_some, Option.map_none, List.getD, Option.getD_some, if_true, true_and, and_true, Nat.reduceAdd, Nat.reduceSub, reduceIte, Bool.false_eq_true, Bool.not_true, Bool.not_false]
  rw [hN]
  refine i_cut (fun s' => ∃ sz : Int, 0 < sz ∧ sz ≤ 1000 ∧ s' = [some (.hold HVk), some (.d (.int m)), some (.d (.list (ns.map .int))), some (.d (.int sz)), none, none]) ?_ ?_
  · rintro s' ⟨sz, z0, z1, rfl⟩
    refine i_seq fun N2 hN2 => ?_
    simp [vw_jk, at_0, at_1, at_2, at_3, at_4, ix_40, ix_41, ix_42, ix_43, boolsD_comp, intsD_comp, sh_int, sh_bool, sh_none, sh_str, ev_int, ev_bool, ev_str, ev_none, ev_ni, ev_in, uIfS, evT, ev, uRet, uRetO, uRetN, uDrop, uSet, uSetO, uMove, uFrz, uNext, uBreak, uCont, uApp, uIns, uPut, uPutA, uAug, uRaise, uVar, uC, uOp, uUn, uTru, uTst, uNot, uAnd, uOr, uAndV, uOrV, uNotV, uIf, uNil, uCons, argU, uTup, uLst, allD, onDs, onD, onT, onBool, oI, oIC, oAdd, oEq, oIsN, isN_none, isN_int, isN_bool, isN_str, isN_list, isN_tup, truD, oIx, uSl, uPart, uNoP, oSl, uCB, oLen, oList, oTuple, oInt, oAbs, oAll, oAny, oSum, onB, onI, uIs, uIs2, isT, uCall, uCallP, pick, vw, vw1, okU, okX, nolU, nol, nols, startU, kOf, kQ, kT, onL, uSeqI, uRng1, uRng2, rOk, uEnum, uRep, uTupRev, uYes, ugN, ugT2, wipeU, setU, uIfQ, uRetQ, uSetQ, uPutQ, ixC, szD, List.map_cons, List.map_nil, List.length_cons, List.length_nil, List.replicate, List.cons_append, List.nil_append, List.getElem?_cons_zero, List.getElem?_cons_succ, List.set_cons_zero, List.set_cons_succ, Option.map_some, Option.map_none, List.getD, Option.getD_some, if_true, true_and, and_true, Nat.reduceAdd, Nat.reduceSub, reduceIte, Bool.false_eq_true, Bool.not_true, Bool.not_false]
    refine i_lc ?_
    simp [vw_jk, at_0, at_1, at_2, at_3, at_4, ix_40, ix_41, ix_42, ix_43, boolsD_comp, intsD_comp, sh_int, sh_bool, sh_none, sh_str, ev_int, ev_bool, ev_str, ev_none, ev_ni, ev_in, uIfS, evT, ev, uRet, uRetO, uRetN, uDrop, uSet, uSetO, uMove, uFrz, uNext, uBreak, uCont, uApp, uIns, uPut, uPutA, uAug, uRaise, uVar, uC, uOp, uUn, uTru, uTst, uNot, uAnd, uOr, uAndV, uOrV, uNotV, uIf, uNil, uCons, argU, uTup, uLst, allD, onDs, onD, onT, onBool, oI, oIC, oAdd, oEq, oIsN, isN_none, isN_int, isN_bool, isN_str, isN_list, isN_tup, truD, oIx, uSl, uPart, uNoP, oSl, uCB, oLen, oList, oTuple, oInt, oAbs, oAll, oAny, oSum, onB, onI, uIs, uIs2, isT, uCall, uCallP, pick, vw, vw1, okU, okX, nolU, nol, nols, startU, kOf, kQ, kT, onL, uSeqI, uRng1, uRng2, rOk, uEnum, uRep, uTupRev, uYes, ugN, ugT2, wipeU, setU, uIfQ, uRetQ, uSetQ, uPutQ, ixC, szD, List.map_cons, List.map_nil, List.length_cons, List.length_nil, List.replicate, List.cons_append, List.nil_append, List.getElem?_cons_zero, List.getElem?_cons_succ, List.set_cons_zero, List.set_cons_succ, Option.map_some, Option.map_none, List.getD, Option.getD_some, if_true, true_and, and_true, Nat.reduceAdd, Nat.reduceSub, reduceIte, Bool.false_eq_true, Bool.not_true, Bool.not_false]
    refine ⟨⟨by omega, by omega⟩, ?_⟩
    refine lc_rel (fun _ _ y => ∃ z : Int, y = .int z) (by rw [rngD_len]; exact lt_line (by omega)) (fun i d e => ⟨_, rfl, by simp, fun acc J hJ => ?_⟩) (fun acc ha hr => ?_)
    · simp [vw_jk, at_0, at_1, at_2, at_3, at_4, ix_40, ix_41, ix_42, ix_43, boolsD_comp, intsD_comp, sh_int, sh_bool, sh_none, sh_str, ev_int, ev_bool, ev_str, ev_none, ev_ni, ev_in, uIfS, evT, ev, uRet, uRetO, uRetN, uDrop, uSet, uSetO, uMove, uFrz, uNext, uBreak, uCont, uApp, uIns, uPut, uPutA, uAug, uRaise, uVar, uC, uOp, uUn, uTru, uTst, uNot, uAnd, uOr, uAndV, uOrV, uNotV, uIf, uNil, uCons, argU, uTup, uLst, allD, onDs, onD, onT, onBool, oI, oIC, oAdd, oEq, oIsN, isN_none, isN_int, isN_bool, isN_str, isN_list, isN_tup, truD, oIx, uSl, uPart, uNoP, oSl, uCB, oLen, oList, oTuple, oInt, oAbs, oAll, oAny, oSum, onB, onI, uIs, uIs2, isT, uCall, uCallP, pick, vw, vw1, okU, okX, nolU, nol, nols, startU, kOf, kQ, kT, onL, uSeqI, uRng1, uRng2, rOk, uEnum, uRep, uTupRev, uYes, ugN, ugT2, wipeU, setU, uIfQ, uRetQ, uSetQ, uPutQ, ixC, szD, List.map_cons, List.map_nil, List.length_cons, List.length_nil, List.replicate, List.cons_append, List.nil_append, List.getElem?_cons_zero, List.getElem?_cons_succ, List.set_cons_zero, List.set_cons_succ, Option.map_some, Option.map_none, List.getD, Option.getD_some, if_true, true_and, and_true, Nat.reduceAdd, Nat.reduceSub, reduceIte, Bool.false_eq_true, Bool.not_true, Bool.not_false]
      refine tk (by omega) (lgS (by omega)) fun b b0 b1 => ?_
      obtain ⟨z, hz⟩ := at_ints b0 b1
      simp [vw_jk, at_0, at_1, at_2, at_3, at_4, ix_40, ix_41, ix_42, ix_43, boolsD_comp, intsD_comp, sh_int, sh_bool, sh_none, sh_str, ev_int, ev_bool, ev_str, ev_none, ev_ni, ev_in, uIfS, evT, ev, uRet, uRetO, uRetN, uDrop, uSet, uSetO, uMove, uFrz, uNext, uBreak, uCont, uApp, uIns, uPut, uPutA, uAug, uRaise, uVar, uC, uOp, uUn, uTru, uTst, uNot, uAnd, uOr, uAndV, uOrV, uNotV, uIf, uNil, uCons, argU, uTup, uLst, allD, onDs, onD, onT, onBool, oI, oIC, oAdd, oEq, oIsN, isN_none, isN_int, isN_bool, isN_str, isN_list, isN_tup, truD, oIx, uSl, uPart, uNoP, oSl, uCB, oLen, oList, oTuple, oInt, oAbs, oAll, oAny, oSum, onB, onI, uIs, uIs2, isT, uCall, uCallP, pick, vw, vw1, okU, okX, nolU, nol, nols, startU, kOf, kQ, kT, onL, uSeqI, uRng1, uRng2, rOk, uEnum, uRep, uTupRev, uYes, ugN, ugT2, wipeU, setU, uIfQ, uRetQ, uSetQ, uPutQ, ixC, szD, List.map_cons, List.map_nil, List.length_cons, List.length_nil, List.replicate, List.cons_append, List.nil_append, List.getElem?_cons_zero, List.getElem?_cons_succ, List.set_cons_zero, List.set_cons_succ, Option.map_some, Option.map_none, List.getD, Option.getD_some, if_true, true_and, and_true, Nat.reduceAdd, Nat.reduceSub, reduceIte, Bool.false_eq_true, Bool.not_true, Bool.not_false, hz]
      exact hJ _ ⟨z, rfl⟩
    · obtain ⟨r, rfl⟩ := ints_of fun i y e => by
        have hi : i < (rngD 0 sz.toNat).length := by rw [← ha]; exact (List.getElem?_eq_some_iff.mp e).1
        exact hr i _ y (List.getElem?_eq_getElem hi) e
      rw [rngD_len, List.length_map] at ha
      simp only [vw_jk, at_0, at_1, at_2, at_3, at_4, ix_40, ix_41, ix_42, ix_43, boolsD_comp, intsD_comp, sh_int, sh_bool, sh_none, sh_str, ev_int, ev_bool, ev_str, ev_none, ev_ni, ev_in, uIfS, evT, ev, uRet, uRetO, uRetN, uDrop, uSet, uSetO, uMove, uFrz, uNext, uBreak, uCont, uApp, uIns, uPut, uPutA, uAug, uRaise, uVar, uC, uOp, uUn, uTru, uTst, uNot, uAnd, uOr, uAndV, uOrV, uNotV, uIf, uNil, uCons, argU, uTup, uLst, allD, onDs, onD, onT, onBool, oI, oIC, oAdd, oEq, oIsN, isN_none, isN_int, isN_bool, isN_str, isN_list, isN_tup, truD, oIx, uSl, uPart, uNoP, oSl, uCB, oLen, oList, oTuple, oInt, oAbs, oAll, oAny, oSum, onB, onI, uIs, uIs2, isT, uCall, uCallP, pick, vw, vw1, okU, okX, nolU, nol, nols, startU, kOf, kQ, kT, onL, uSeqI, uRng1, uRng2, rOk, uEnum, uRep, uTupRev, uYes, ugN, ugT2, wipeU, setU, uIfQ, uRetQ, uSetQ, uPutQ, ixC, szD, List.map_cons, List.map_nil, List.length_cons, List.length_nil, List.replicate, List.cons_append, List.nil_append, List.getElem?_cons_zero, List.getElem?_cons_succ, List.set_cons_zero, List.set_cons_succ, Option.map_some, Option.map_none, List.getD, Option.getD_some, if_true, true_and, and_true, Nat.reduceAdd, Nat.reduceSub, reduceIte, Bool.false_eq_true, Bool.not_true, Bool.not_false]
      rw [hN2]
      simp [vw_jk, at_0, at_1, at_2, at_3, at_4, ix_40, ix_41, ix_42, ix_43, boolsD_comp, intsD_comp, sh_int, sh_bool, sh_none, sh_str, ev_int, ev_bool, ev_str, ev_none, ev_ni, ev_in, uIfS, evT, ev, uRet, uRetO, uRetN, uDrop, uSet, uSetO, uMove, uFrz, uNext, uBreak, uCont, uApp, uIns, uPut, uPutA, uAug, uRaise, uVar, uC, uOp, uUn, uTru, uTst, uNot, uAnd, uOr, uAndV, uOrV, uNotV, uIf, uNil, uCons, argU, uTup, uLst, allD, onDs, onD, onT, onBool, oI, oIC, oAdd, oEq, oIsN, isN_none, isN_int, isN_bool, isN_str, isN_list, isN_tup, truD, oIx, uSl, uPart, uNoP, oSl, uCB, oLen, oList, oTuple, oInt, oAbs, oAll, oAny, oSum, onB, onI, uIs, uIs2, isT, uCall, uCallP, pick, vw, vw1, okU, okX, nolU, nol, nols, startU, kOf, kQ, kT, onL, uSeqI, uRng1, uRng2, rOk, uEnum, uRep, uTupRev, uYes, ugN, ugT2, wipeU, setU, uIfQ, uRetQ, uSetQ, uPutQ, ixC, szD, List.map_cons, List.map_nil, List.length_cons, List.length_nil, List.replicate, List.cons_append, List.nil_append, List.getElem?_cons_zero, List.getElem?_cons_succ, List.set_cons_zero, List.set_cons_succ, Option.map_some, Option.map_none, List.getD, Option.getD_some, if_true, true_and, and_true, Nat.reduceAdd, Nat.reduceSub, reduceIte, Bool.false_eq_true, Bool.not_true, Bool.not_false]
      refine i_lc ?_
      simp [vw_jk, at_0, at_1, at_2, at_3, at_4, ix_40, ix_41, ix_42, ix_43, boolsD_comp, intsD_comp, sh_int, sh_bool, sh_none, sh_str, ev_int, ev_bool, ev_str, ev_none, ev_ni, ev_in, uIfS, evT, ev, uRet, uRetO, uRetN, uDrop, uSet, uSetO, uMove, uFrz, uNext, uBreak, uCont, uApp, uIns, uPut, uPutA, uAug, uRaise, uVar, uC, uOp, uUn, uTru, uTst, uNot, uAnd, uOr, uAndV, uOrV, uNotV, uIf, uNil, uCons, argU, uTup, uLst, allD, onDs, onD, onT, onBool, oI, oIC, oAdd, oEq, oIsN, isN_none, isN_int, isN_bool, isN_str, isN_list, isN_tup, truD, oIx, uSl, uPart, uNoP, oSl, uCB, oLen, oList, oTuple, oInt, oAbs, oAll, oAny, oSum, onB, onI, uIs, uIs2, isT, uCall, uCallP, pick, vw, vw1, okU, okX, nolU, nol, nols, startU, kOf, kQ, kT, onL, uSeqI, uRng1, uRng2, rOk, uEnum, uRep, uTupRev, uYes, ugN, ugT2, wipeU, setU, uIfQ, uRetQ, uSetQ, uPutQ, ixC, szD, List.map_cons, List.map_nil, List.length_cons, List.length_nil, List.replicate, List.cons_append, List.nil_append, List.getElem?_cons_zero, List.getElem?_cons_succ, List.set_cons_zero, List.set_cons_succ, Option.map_some, Option.map_none, List.getD, Option.getD_some, if_true, true_and, and_true, Nat.reduceAdd, Nat.reduceSub, reduceIte, Bool.false_eq_true, Bool.not_true, Bool.not_false]
      refine ⟨⟨by omega, by omega⟩, ?_⟩
      refine lc_rel (fun _ _ y => ∃ z : Int, y = .int z) (by rw [rngD_len]; exact lt_line (by omega)) (fun i d e => ?_) (fun acc ha2 hr2 => ?_)
      · obtain ⟨rfl, hi⟩ := get_rngD e
        refine ⟨_, rfl, by simp, fun acc J hJ => ?_⟩
        obtain ⟨z, hz⟩ := at_ints (ns := r) (i := (i : Int) % sz) (Int.emod_nonneg _ (by omega)) (by have := Int.emod_lt_of_pos (i : Int) z0; omega)
        simp [vw_jk, at_0, at_1, at_2, at_3, at_4, ix_40, ix_41, ix_42, ix_43, boolsD_comp, intsD_comp, sh_int, sh_bool, sh_none, sh_str, ev_int, ev_bool, ev_str, ev_none, ev_ni, ev_in, uIfS, evT, ev, uRet, uRetO, uRetN, uDrop, uSet, uSetO, uMove, uFrz, uNext, uBreak, uCont, uApp, uIns, uPut, uPutA, uAug, uRaise, uVar, uC, uOp, uUn, uTru, uTst, uNot, uAnd, uOr, uAndV, uOrV, uNotV, uIf, uNil, uCons, argU, uTup, uLst, allD, onDs, onD, onT, onBool, oI, oIC, oAdd, oEq, oIsN, isN_none, isN_int, isN_bool, isN_str, isN_list, isN_tup, truD, oIx, uSl, uPart, uNoP, oSl, uCB, oLen, oList, oTuple, oInt, oAbs, oAll, oAny, oSum, onB, onI, uIs, uIs2, isT, uCall, uCallP, pick, vw, vw1, okU, okX, nolU, nol, nols, startU, kOf, kQ, kT, onL, uSeqI, uRng1, uRng2, rOk, uEnum, uRep, uTupRev, uYes, ugN, ugT2, wipeU, setU, uIfQ, uRetQ, uSetQ, uPutQ, ixC, szD, List.map_cons, List.map_nil, List.length_cons, List.length_nil, List.replicate, List.cons_append, List.nil_append, List.getElem?_cons_zero, List.getElem?_cons_succ, List.set_cons_zero, List.set_cons_succ, Option.map_some, Option.map_none, List.getD, Option.getD_some, if_true, true_and, and_true, Nat.reduceAdd, Nat.reduceSub, reduceIte, Bool.false_eq_true, Bool.not_true, Bool.not_false, hz]
        exact ⟨z0, hJ _ ⟨z, rfl⟩⟩
      · obtain ⟨r2, rfl⟩ := ints_of fun i y e => by
          have hi : i < (rngD 0 m.toNat).length := by rw [← ha2]; exact (List.getElem?_eq_some_iff.mp e).1
          exact hr2 i _ y (List.getElem?_eq_getElem hi) e
        rw [rngD_len, List.length_map] at ha2
        simp only [vw_jk, at_0, at_1, at_2, at_3, at_4, ix_40, ix_41, ix_42, ix_43, boolsD_comp, intsD_comp, sh_int, sh_bool, sh_none, sh_str, ev_int, ev_bool, ev_str, ev_none, ev_ni, ev_in, uIfS, evT, ev, uRet, uRetO, uRetN, uDrop, uSet, uSetO, uMove, uFrz, uNext, uBreak, uCont, uApp, uIns, uPut, uPutA, uAug, uRaise, uVar, uC, uOp, uUn, uTru, uTst, uNot, uAnd, uOr, uAndV, uOrV, uNotV, uIf, uNil, uCons, argU, uTup, uLst, allD, onDs, onD, onT, onBool, oI, oIC, oAdd, oEq, oIsN, isN_none, isN_int, isN_bool, isN_str, isN_list, isN_tup, truD, oIx, uSl, uPart, uNoP, oSl, uCB, oLen, oList, oTuple, oInt, oAbs, oAll, oAny, oSum, onB, onI, uIs, uIs2, isT, uCall, uCallP, pick, vw, vw1, okU, okX, nolU, nol, nols, startU, kOf, kQ, kT, onL, uSeqI, uRng1, uRng2, rOk, uEnum, uRep, uTupRev, uYes, ugN, ugT2, wipeU, setU, uIfQ, uRetQ, uSetQ, uPutQ, ixC, szD, List.map_cons, List.map_nil, List.length_cons, List.length_nil, List.replicate, List.cons_append, List.nil_append, List.getElem?_cons_zero, List.getElem?_cons_succ, List.set_cons_zero, List.set_cons_succ, Option.map_some, Option.map_none, List.getD, Option.getD_some, if_true, true_and, and_true, Nat.reduceAdd, Nat.reduceSub, reduceIte, Bool.false_eq_true, Bool.not_true, Bool.not_false]
        exact hp r2 (by omega)
  · intro M hM
    simp [vw_jk, at_0, at_1, at_2, at_3, at_4, ix_40, ix_41, ix_42, ix_43, boolsD_comp, intsD_comp, sh_int, sh_bool, sh_none, sh_str, ev_int, ev_bool, ev_str, ev_none, ev_ni, ev_in, uIfS, evT, ev, uRet, uRetO, uRetN, uDrop, uSet, uSetO, uMove, uFrz, uNext, uBreak, uCont, uApp, uIns, uPut, uPutA, uAug, uRaise, uVar, uC, uOp, uUn, uTru, uTst, uNot, uAnd, uOr, uAndV, uOrV, uNotV, uIf, uNil, uCons, argU, uTup, uLst, allD, onDs, onD, onT, onBool, oI, oIC, oAdd, oEq, oIsN, isN_none, isN_int, isN_bool, isN_str, isN_list, isN_tup, truD, oIx, uSl, uPart, uNoP, oSl, uCB, oLen, oList, oTuple, oInt, oAbs, oAll, oAny, oSum, onB, onI, uIs, uIs2, isT, uCall, uCallP, pick, vw, vw1, okU, okX, nolU, nol, nols, startU, kOf, kQ, kT, onL, uSeqI, uRng1, uRng2, rOk, uEnum, uRep, uTupRev, uYes, ugN, ugT2, wipeU, setU, uIfQ, uRetQ, uSetQ, uPutQ, ixC, szD, List.map_cons, List.map_nil, List.length_cons, List.length_nil, List.replicate, List.cons_append, List.nil_append, List.getElem?_cons_zero, List.getElem?_cons_succ, List.set_cons_zero, List.set_cons_succ, Option.map_some, Option.map_none, List.getD, Option.getD_some, if_true, true_and, and_true, Nat.reduceAdd, Nat.reduceSub, reduceIte, Bool.false_eq_true, Bool.not_true, Bool.not_false]
    refine tk (by decide) (by decide) fun b b0 b1 => ?_
    simp [vw_jk, at_0, at_1, at_2, at_3, at_4, ix_40, ix_41, ix_42, ix_43, boolsD_comp, intsD_comp, sh_int, sh_bool, sh_none, sh_str, ev_int, ev_bool, ev_str, ev_none, ev_ni, ev_in, uIfS, evT, ev, uRet, uRetO, uRetN, uDrop, uSet, uSetO, uMove, uFrz, uNext, uBreak, uCont, uApp, uIns, uPut, uPutA, uAug, uRaise, uVar, uC, uOp, uUn, uTru, uTst, uNot, uAnd, uOr, uAndV, uOrV, uNotV, uIf, uNil, uCons, argU, uTup, uLst, allD, onDs, onD, onT, onBool, oI, oIC, oAdd, oEq, oIsN, isN_none, isN_int, isN_bool, isN_str, isN_list, isN_tup, truD, oIx, uSl, uPart, uNoP, oSl, uCB, oLen, oList, oTuple, oInt, oAbs, oAll, oAny, oSum, onB, onI, uIs, uIs2, isT, uCall, uCallP, pick, vw, vw1, okU, okX, nolU, nol, nols, startU, kOf, kQ, kT, onL, uSeqI, uRng1, uRng2, rOk, uEnum, uRep, uTupRev, uYes, ugN, ugT2, wipeU, setU, uIfQ, uRetQ, uSetQ, uPutQ, ixC, szD, List.map_cons, List.map_nil, List.length_cons, List.length_nil, List.replicate, List.cons_append, List.nil_append, List.getElem?_cons_zero, List.getElem?_cons_succ, List.set_cons_zero, List.set_cons_succ, Option.map_some, Option.map_none, List.getD, Option.getD_some, if_true, true_and, and_true, Nat.reduceAdd, Nat.reduceSub, reduceIte, Bool.false_eq_true, Bool.not_true, Bool.not_false]
    split
    · refine tk (by omega) (lgS (by omega)) fun c c0 c1 => ?_
      simp [vw_jk, at_0, at_1, at_2, at_3, at_4, ix_40, ix_41, ix_42, ix_43, boolsD_comp, intsD_comp, sh_int, sh_bool, sh_none, sh_str, ev_int, ev_bool, ev_str, ev_none, ev_ni, ev_in, uIfS, evT, ev, uRet, uRetO, uRetN, uDrop, uSet, uSetO, uMove, uFrz, uNext, uBreak, uCont, uApp, uIns, uPut, uPutA, uAug, uRaise, uVar, uC, uOp, uUn, uTru, uTst, uNot, uAnd, uOr, uAndV, uOrV, uNotV, uIf, uNil, uCons, argU, uTup, uLst, allD, onDs, onD, onT, onBool, oI, oIC, oAdd, oEq, oIsN, isN_none, isN_int, isN_bool, isN_str, isN_list, isN_tup, truD, oIx, uSl, uPart, uNoP, oSl, uCB, oLen, oList, oTuple, oInt, oAbs, oAll, oAny, oSum, onB, onI, uIs, uIs2, isT, uCall, uCallP, pick, vw, vw1, okU, okX, nolU, nol, nols, startU, kOf, kQ, kT, onL, uSeqI, uRng1, uRng2, rOk, uEnum, uRep, uTupRev, uYes, ugN, ugT2, wipeU, setU, uIfQ, uRetQ, uSetQ, uPutQ, ixC, szD, List.map_cons, List.map_nil, List.length_cons, List.length_nil, List.replicate, List.cons_append, List.nil_append, List.getElem?_cons_zero, List.getElem?_cons_succ, List.set_cons_zero, List.set_cons_succ, Option.map_some, Option.map_none, List.getD, Option.getD_some, if_true, true_and, and_true, Nat.reduceAdd, Nat.reduceSub, reduceIte, Bool.false_eq_true, Bool.not_true, Bool.not_false]
      exact hM _ ⟨_, by omega, by omega, rfl⟩
    · exact hM _ ⟨m, hm, hm2, rfl⟩
theorem sc__law_a_wished : FnScope ["_law_hold", "_law_many", "_law_symbols", "_law_row", "_law_kind", "_law_turn", "_law_wished", "_law_r", "_law_spot", "_law_thing"] ["_law_hold", "_law_many", "_law_symbols", "_law_row"] (defScope s__law_a_wished) := ⟨rfl, rfl, rfl, by decide +kernel, rfl, by decide +kernel, by decide +kernel⟩
def fn__law_a_wished : Fn := fun as P PX => ∃ (m : Int) (ns r : List Int), as = [.hold HVk, .d (.int m), .d (.list (ns.map .int)), .d (.tuple (r.map .int))] ∧ 0 < m ∧ m ≤ 1000 ∧ 1 ≤ ns.length ∧ ns.length ≤ 1000 ∧ (r.length : Int) = m ∧
  ∀ l : List D, (l.length : Int) = m → allN l = true → P (.d (.tuple l))
theorem allN_of {l : List D} (h : ∀ (i : Nat) (y : D), l[i]? = some y → okN y = true) : allN l = true := by
  refine List.all_eq_true.mpr fun x hx => ?_
  obtain ⟨i, hi, rfl⟩ := List.getElem_of_mem hx
  exact h i _ (List.getElem?_eq_getElem hi)
theorem allN_set {l : List D} {n : Nat} {x : D} (h : allN l = true) (hx : okN x = true) : allN (l.set n x) = true := by
  refine List.all_eq_true.mpr fun y hy => ?_
  rcases List.mem_or_eq_of_mem_set hy with z | rfl
  · exact List.all_eq_true.mp h y z
  · exact hx
theorem okN_nol {x : D} (h : okN x = true) : nol x = true := by cases x <;> first | rfl | cases h
theorem allN_nols {l : List D} (h : allN l = true) : nols l = true := nols_all fun x hx => okN_nol (List.all_eq_true.mp h x hx)
theorem has__law_a_wished (T : Tk P K mg) {fd__law_take : FuncData} (h__law_take : Has P w K mg base 1 "_law_take" s__law_take ["_law_hold", "_law_many"] fn__law_take fd__law_take) : ∃ fd, Has P w K mg base 2 "_law_a_wished" s__law_a_wished ["_law_hold", "_law_many", "_law_symbols", "_law_row"] fn__law_a_wished fd := by
  obtain ⟨fd, F⟩ := T.f__law_a_wished
  have hb := F.binds (ps := ["_law_hold", "_law_many", "_law_symbols", "_law_row"]) fun _ _ _ _ _ _ us hl => match us, hl with | [_, _, _, _], _ => rfl
  refine ⟨fd, T.g__law_a_wished, F.kp, F, hb, fnD F sc__law_a_wished (by decide) fun cdv A outer s H E hr => ⟨_, _, (dss_cons (ds_set false 4 (de_own h__law_take ⟨rfl, rfl, rfl, rfl, rfl⟩ (hr.mono (by decide)) rfl airD (da_cons (dv 0) (da_cons de_int da_nil))) sc__law_a_wished.nd)
    (dss_cons (ds_set false 5 (de_own h__law_take ⟨rfl, rfl, rfl, rfl, rfl⟩ (hr.mono (by decide)) rfl airD (da_cons (dv 0) (da_cons (dv 1) da_nil))) sc__law_a_wished.nd)
    (dss_cons (ds_setLcO (i := 6) false rfl sc__law_a_wished.nd rfl rfl rfl (own := [("_law_r", 7)]) (di_rng1 (dv 1) rfl T.n_range) (blk_of (by kernel_rfl)) (fun _ _ _ _ _ => (dg_name 7 sc__law_a_wished.nd)) (fun _ _ _ _ _ => dts_nil) (fun _ _ _ _ _ => (de_ixk (KK := K) (dv 3) (de_op do_mod (de_callTy dc_int rfl T.n_int bt_int (da_cons (de_op (do_addk (KK := K)) (dv 7) (dv 5)) da_nil)) (dv 1)))))
    (dss_cons (ds_set false 8 (de_own h__law_take ⟨rfl, rfl, rfl, rfl, rfl⟩ (hr.mono (by decide)) rfl airD (da_cons (dv 0) (da_cons (dv 1) da_nil))) sc__law_a_wished.nd)
    (dss_cons (ds_if false (dt_cmp (do_eqk (KK := K) hr.units) (dv 4) de_int) (dss_one (ds_setLcO (i := 6) false rfl sc__law_a_wished.nd rfl rfl rfl (own := [("_law_r", 7)]) (di_rng1 (dv 1) rfl T.n_range) (blk_of (by kernel_rfl)) (fun _ _ _ _ _ => (dg_name 7 sc__law_a_wished.nd)) (fun _ _ _ _ _ => dts_nil) (fun _ _ _ _ _ => de_non))) dss_nil)
    (dss_cons (ds_if false (dt_cmp (do_eqk (KK := K) hr.units) (dv 4) de_int) (dss_cons (ds_setLcO (i := 6) false rfl sc__law_a_wished.nd rfl rfl rfl (own := [("_law_r", 7)]) (di_rng1 (dv 1) rfl T.n_range) (blk_of (by kernel_rfl)) (fun _ _ _ _ _ => (dg_name 7 sc__law_a_wished.nd)) (fun _ _ _ _ _ => dts_nil) (fun _ _ _ _ _ => de_non))
    (dss_one (ds_put false 6 (dv 8) (de_ixk (KK := K) (dv 2) (de_own h__law_take ⟨rfl, rfl, rfl, rfl, rfl⟩ (hr.mono (by decide)) rfl airD (da_cons (dv 0) (da_cons (de_callB (dc_lenk (KK := K)) rfl T.n_len bt_len (da_cons (dv 2) da_nil)) da_nil))))))) dss_nil)
    (dss_cons (ds_if false (dt_cmp (do_eqk (KK := K) hr.units) (dv 4) de_int) (dss_one (ds_setLcO (i := 6) false rfl sc__law_a_wished.nd rfl rfl rfl (own := [("_law_r", 7)]) (di_rng1 (dv 1) rfl T.n_range) (blk_of (by kernel_rfl)) (fun _ _ _ _ _ => (dg_name 7 sc__law_a_wished.nd)) (fun _ _ _ _ _ => dts_nil) (fun _ _ _ _ _ => (de_ixk (KK := K) (dv 2) (de_own h__law_take ⟨rfl, rfl, rfl, rfl, rfl⟩ (hr.mono (by decide)) rfl air0 (da_cons (dv 0) (da_cons (de_callB (dc_lenk (KK := K)) rfl T.n_len bt_len (da_cons (dv 2) da_nil)) da_nil))))))) dss_nil)
    (dss_cons (ds_if false (DW.dt (dw_and (dt_cmp do_gt (dv 4) de_int) (dw_and1 (dt_cmp do_gt (de_own h__law_take ⟨rfl, rfl, rfl, rfl, rfl⟩ (hr.mono (by decide)) rfl airD (da_cons (dv 0) (da_cons de_int da_nil))) de_int)))) (dss_one (ds_setLcO (i := 6) true rfl sc__law_a_wished.nd rfl rfl rfl (own := [("_law_thing", 9)]) (di_seqk (KK := K) (dv 6)) (blk_of (by kernel_rfl)) (fun _ _ _ _ _ => (dg_name 9 sc__law_a_wished.nd)) (fun _ _ _ _ _ => dts_nil) (fun _ _ _ _ _ => (de_ixk (KK := K) (de_tup (da_cons (dv 9) (da_cons de_non da_nil))) (de_callTy dc_int rfl T.n_int bt_int (da_cons (de_cmp (do_eqk (KK := K) hr.units) (de_own h__law_take ⟨rfl, rfl, rfl, rfl, rfl⟩ (hr.mono (by decide)) rfl air0 (da_cons (dv 0) (da_cons de_int da_nil))) de_int) da_nil)))))) dss_nil)
    (dss_cons (ds_if false (dt_cmp (do_eqk (KK := K) hr.units) (dv 4) de_int) (dss_one (ds_put false 6 (dv 8) (de_op (do_addk (KK := K)) (de_ixk (KK := K) (dv 2) (de_own h__law_take ⟨rfl, rfl, rfl, rfl, rfl⟩ (hr.mono (by decide)) rfl airD (da_cons (dv 0) (da_cons (de_callB (dc_lenk (KK := K)) rfl T.n_len bt_len (da_cons (dv 2) da_nil)) da_nil)))) (de_own h__law_take ⟨rfl, rfl, rfl, rfl, rfl⟩ (hr.mono (by decide)) rfl airD (da_cons (dv 0) (da_cons de_int da_nil)))))) dss_nil)
    (dss_one (ds_ret true (de_callTy (dc_tuplek (KK := K)) rfl T.n_tuple bt_tuple (da_cons (dv 6) da_nil))))))))))))), ?_⟩⟩
  rintro as Q PX hl ⟨m, ns, r, rfl, hm, hm2, hn1, hn2, hr, hp⟩
  refine i_seq fun N hN => ?_
  simp [vw_jk, at_0, at_1, at_2, at_3, at_4, ix_40, ix_41, ix_42, ix_43, boolsD_comp, intsD_comp, sh_int, sh_bool, sh_none, sh_str, ev_int, ev_bool, ev_str, ev_none, ev_ni, ev_in, uIfS, evT, ev, uRet, uRetO, uRetN, uDrop, uSet, uSetO, uMove, uFrz, uNext, uBreak, uCont, uApp, uIns, uPut, uPutA, uAug, uRaise, uVar, uC, uOp, uUn, uTru, uTst, uNot, uAnd, uOr, uAndV, uOrV, uNotV, uIf, uNil, uCons, argU, uTup, uLst, allD, onDs, onD, onT, onBool, oI, oIC, oAdd, oEq, oIsN, isN_none, isN_int, isN_bool, isN_str, isN_list, isN_tup, truD, oIx, uSl, uPart, uNoP, oSl, uCB, oLen, oList, oTuple, oInt, oAbs, oAll, oAny, oSum, onB, onI, uIs, uIs2, isT, uCall, uCallP, pick, vw, vw1, okU, okX, nolU, nol, nols, startU, kOf, kQ, kT, onL, uSeqI, uRng1, uRng2, rOk, uEnum, uRep, uTupRev, uYes, ugN, ugT2, wipeU, setU, uIfQ, uRetQ, uSetQ, uPutQ, ixC, szD, List.map_cons, List.map_nil, List.length_cons, List.length_nil, List.replicate, List.cons_append, List.nil_append, List.getElem?_cons_zero, List.getElem?_cons_succ, List.set_cons_zero, List.set_cons_succ, Option.map_some, Option.map_none, List.getD, Option.getD_some, if_true, true_and, and_true, Nat.reduceAdd, Nat.reduceSub, reduceIte, Bool.false_eq_true, Bool.not_true, Bool.not_false]
  refine tk (by decide) (by decide) fun kd k0 k1 => ?_
  simp [vw_jk, at_0, at_1, at_2, at_3, at_4, ix_40, ix_41, ix_42, ix_43, boolsD_comp, intsD_comp, sh_int, sh_bool, sh_none, sh_str, ev_int, ev_bool, ev_str, ev_none, ev_ni, ev_in, uIfS, evT, ev, uRet, uRetO, uRetN, uDrop, uSet, uSetO, uMove, uFrz, uNext, uBreak, uCont, uApp, uIns, uPut, uPutA, uAug, uRaise, uVar, uC, uOp, uUn, uTru, uTst, uNot, uAnd, uOr, uAndV, uOrV, uNotV, uIf, uNil, uCons, argU, uTup, uLst, allD, onDs, onD, onT, onBool, oI, oIC, oAdd, oEq, oIsN, isN_none, isN_int, isN_bool, isN_str, isN_list, isN_tup, truD, oIx, uSl, uPart, uNoP, oSl, uCB, oLen, oList, oTuple, oInt, oAbs, oAll, oAny, oSum, onB, onI, uIs, uIs2, isT, uCall, uCallP, pick, vw, vw1, okU, okX, nolU, nol, nols, startU, kOf, kQ, kT, onL, uSeqI, uRng1, uRng2, rOk, uEnum, uRep, uTupRev, uYes, ugN, ugT2, wipeU, setU, uIfQ, uRetQ, uSetQ, uPutQ, ixC, szD, List.map_cons, List.map_nil, List.length_cons, List.length_nil, List.replicate, List.cons_append, List.nil_append, List.getElem?_cons_zero, List.getElem?_cons_succ, List.set_cons_zero, List.set_cons_succ, Option.map_some, Option.map_none, List.getD, Option.getD_some, if_true, true_and, and_true, Nat.reduceAdd, Nat.reduceSub, reduceIte, Bool.false_eq_true, Bool.not_true, Bool.not_false]
  rw [hN]
  refine i_seq fun N2 hN2 => ?_
  simp [vw_jk, at_0, at_1, at_2, at_3, at_4, ix_40, ix_41, ix_42, ix_43, boolsD_comp, intsD_comp, sh_int, sh_bool, sh_none, sh_str, ev_int, ev_bool, ev_str, ev_none, ev_ni, ev_in, uIfS, evT, ev, uRet, uRetO, uRetN, uDrop, uSet, uSetO, uMove, uFrz, uNext, uBreak, uCont, uApp, uIns, uPut, uPutA, uAug, uRaise, uVar, uC, uOp, uUn, uTru, uTst, uNot, uAnd, uOr, uAndV, uOrV, uNotV, uIf, uNil, uCons, argU, uTup, uLst, allD, onDs, onD, onT, onBool, oI, oIC, oAdd, oEq, oIsN, isN_none, isN_int, isN_bool, isN_str, isN_list, isN_tup, truD, oIx, uSl, uPart, uNoP, oSl, uCB, oLen, oList, oTuple, oInt, oAbs, oAll, oAny, oSum, onB, onI, uIs, uIs2, isT, uCall, uCallP, pick, vw, vw1, okU, okX, nolU, nol, nols, startU, kOf, kQ, kT, onL, uSeqI, uRng1, uRng2, rOk, uEnum, uRep, uTupRev, uYes, ugN, ugT2, wipeU, setU, uIfQ, uRetQ, uSetQ, uPutQ, ixC, szD, List.map_cons, List.map_nil, List.length_cons, List.length_nil, List.replicate, List.cons_append, List.nil_append, List.getElem?_cons_zero, List.getElem?_cons_succ, List.set_cons_zero, List.set_cons_succ, Option.map_some, Option.map_none, List.getD, Option.getD_some, if_true, true_and, and_true, Nat.reduceAdd, Nat.reduceSub, reduceIte, Bool.false_eq_true, Bool.not_true, Bool.not_false]
  refine tk hm (lgS (by omega)) fun tn t0 t1 => ?_
  simp [vw_jk, at_0, at_1, at_2, at_3, at_4, ix_40, ix_41, ix_42, ix_43, boolsD_comp, intsD_comp, sh_int, sh_bool, sh_none, sh_str, ev_int, ev_bool, ev_str, ev_none, ev_ni, ev_in, uIfS, evT, ev, uRet, uRetO, uRetN, uDrop, uSet, uSetO, uMove, uFrz, uNext, uBreak, uCont, uApp, uIns, uPut, uPutA, uAug, uRaise, uVar, uC, uOp, uUn, uTru, uTst, uNot, uAnd, uOr, uAndV, uOrV, uNotV, uIf, uNil, uCons, argU, uTup, uLst, allD, onDs, onD, onT, onBool, oI, oIC, oAdd, oEq, oIsN, isN_none, isN_int, isN_bool, isN_str, isN_list, isN_tup, truD, oIx, uSl, uPart, uNoP, oSl, uCB, oLen, oList, oTuple, oInt, oAbs, oAll, oAny, oSum, onB, onI, uIs, uIs2, isT, uCall, uCallP, pick, vw, vw1, okU, okX, nolU, nol, nols, startU, kOf, kQ, kT, onL, uSeqI, uRng1, uRng2, rOk, uEnum, uRep, uTupRev, uYes, ugN, ugT2, wipeU, setU, uIfQ, uRetQ, uSetQ, uPutQ, ixC, szD, List.map_cons, List.map_nil, List.length_cons, List.length_nil, List.replicate, List.cons_append, List.nil_append, List.getElem?_cons_zero, List.getElem?_cons_succ, List.set_cons_zero, List.set_cons_succ, Option.map_some, Option.map_none, List.getD, Option.getD_some, if_true, true_and, and_true, Nat.reduceAdd, Nat.reduceSub, reduceIte, Bool.false_eq_true, Bool.not_true, Bool.not_false]
  rw [hN2]
  let M : Sl → Prop := fun s' => ∃ (l : List D) (sp : Int), s' = [some (.hold HVk), some (.d (.int m)), some (.d (.list (ns.map .int))), some (.d (.tuple (r.map .int))), some (.d (.int kd)), some (.d (.int tn)), some (.own l), none, some (.d (.int sp)), none] ∧ (l.length : Int) = m ∧ allN l = true ∧ 0 ≤ sp ∧ sp < m
  have hM : ∀ (l : List D) (sp : Int) (s' : Sl), s' = [some (.hold HVk), some (.d (.int m)), some (.d (.list (ns.map .int))), some (.d (.tuple (r.map .int))), some (.d (.int kd)), some (.d (.int tn)), some (.own l), none, some (.d (.int sp)), none] → (l.length : Int) = m → allN l = true → 0 ≤ sp → sp < m → M s' := fun l sp s' h1 h2 h3 h4 h5 => ⟨l, sp, h1, h2, h3, h4, h5⟩
  refine i_seq fun N3 hN3 => ?_
  simp [vw_jk, at_0, at_1, at_2, at_3, at_4, ix_40, ix_41, ix_42, ix_43, boolsD_comp, intsD_comp, sh_int, sh_bool, sh_none, sh_str, ev_int, ev_bool, ev_str, ev_none, ev_ni, ev_in, uIfS, evT, ev, uRet, uRetO, uRetN, uDrop, uSet, uSetO, uMove, uFrz, uNext, uBreak, uCont, uApp, uIns, uPut, uPutA, uAug, uRaise, uVar, uC, uOp, uUn, uTru, uTst, uNot, uAnd, uOr, uAndV, uOrV, uNotV, uIf, uNil, uCons, argU, uTup, uLst, allD, onDs, onD, onT, onBool, oI, oIC, oAdd, oEq, oIsN, isN_none, isN_int, isN_bool, isN_str, isN_list, isN_tup, truD, oIx, uSl, uPart, uNoP, oSl, uCB, oLen, oList, oTuple, oInt, oAbs, oAll, oAny, oSum, onB, onI, uIs, uIs2, isT, uCall, uCallP, pick, vw, vw1, okU, okX, nolU, nol, nols, startU, kOf, kQ, kT, onL, uSeqI, uRng1, uRng2, rOk, uEnum, uRep, uTupRev, uYes, ugN, ugT2, wipeU, setU, uIfQ, uRetQ, uSetQ, uPutQ, ixC, szD, List.map_cons, List.map_nil, List.length_cons, List.length_nil, List.replicate, List.cons_append, List.nil_append, List.getElem?_cons_zero, List.getElem?_cons_succ, List.set_cons_zero, List.set_cons_succ, Option.map_some, Option.map_none, List.getD, Option.getD_some, if_true, true_and, and_true, Nat.reduceAdd, Nat.reduceSub, reduceIte, Bool.false_eq_true, Bool.not_true, Bool.not_false]
  refine i_lc ?_
  simp [vw_jk, at_0, at_1, at_2, at_3, at_4, ix_40, ix_41, ix_42, ix_43, boolsD_comp, intsD_comp, sh_int, sh_bool, sh_none, sh_str, ev_int, ev_bool, ev_str, ev_none, ev_ni, ev_in, uIfS, evT, ev, uRet, uRetO, uRetN, uDrop, uSet, uSetO, uMove, uFrz, uNext, uBreak, uCont, uApp, uIns, uPut, uPutA, uAug, uRaise, uVar, uC, uOp, uUn, uTru, uTst, uNot, uAnd, uOr, uAndV, uOrV, uNotV, uIf, uNil, uCons, argU, uTup, uLst, allD, onDs, onD, onT, onBool, oI, oIC, oAdd, oEq, oIsN, isN_none, isN_int, isN_bool, isN_str, isN_list, isN_tup, truD, oIx, uSl, uPart, uNoP, oSl, uCB, oLen, oList, oTuple, oInt, oAbs, oAll, oAny, oSum, onB, onI, uIs, uIs2, isT, uCall, uCallP, pick, vw, vw1, okU, okX, nolU, nol, nols, startU, kOf, kQ, kT, onL, uSeqI, uRng1, uRng2, rOk, uEnum, uRep, uTupRev, uYes, ugN, ugT2, wipeU, setU, uIfQ, uRetQ, uSetQ, uPutQ, ixC, szD, List.map_cons, List.map_nil, List.length_cons, List.length_nil, List.replicate, List.cons_append, List.nil_append, List.getElem?_cons_zero, List.getElem?_cons_succ, List.set_cons_zero, List.set_cons_succ, Option.map_some, Option.map_none, List.getD, Option.getD_some, if_true, true_and, and_true, Nat.reduceAdd, Nat.reduceSub, reduceIte, Bool.false_eq_true, Bool.not_true, Bool.not_false]
  refine ⟨⟨by omega, by omega⟩, ?_⟩
  refine lc_rel (fun _ _ y => okN y = true) (by rw [rngD_len]; exact lt_line (by omega)) (fun i d e => ?_) (fun acc ha hacc => ?_)
  · obtain ⟨rfl, hi⟩ := get_rngD e
    refine ⟨_, rfl, by simp, fun acc J hJ => ?_⟩
    obtain ⟨z, hz⟩ := at_ints (ns := r) (i := ((i : Int) + tn) % m) (Int.emod_nonneg _ (by omega)) (by have := Int.emod_lt_of_pos ((i : Int) + tn) hm; omega)
    simp [vw_jk, at_0, at_1, at_2, at_3, at_4, ix_40, ix_41, ix_42, ix_43, boolsD_comp, intsD_comp, sh_int, sh_bool, sh_none, sh_str, ev_int, ev_bool, ev_str, ev_none, ev_ni, ev_in, uIfS, evT, ev, uRet, uRetO, uRetN, uDrop, uSet, uSetO, uMove, uFrz, uNext, uBreak, uCont, uApp, uIns, uPut, uPutA, uAug, uRaise, uVar, uC, uOp, uUn, uTru, uTst, uNot, uAnd, uOr, uAndV, uOrV, uNotV, uIf, uNil, uCons, argU, uTup, uLst, allD, onDs, onD, onT, onBool, oI, oIC, oAdd, oEq, oIsN, isN_none, isN_int, isN_bool, isN_str, isN_list, isN_tup, truD, oIx, uSl, uPart, uNoP, oSl, uCB, oLen, oList, oTuple, oInt, oAbs, oAll, oAny, oSum, onB, onI, uIs, uIs2, isT, uCall, uCallP, pick, vw, vw1, okU, okX, nolU, nol, nols, startU, kOf, kQ, kT, onL, uSeqI, uRng1, uRng2, rOk, uEnum, uRep, uTupRev, uYes, ugN, ugT2, wipeU, setU, uIfQ, uRetQ, uSetQ, uPutQ, ixC, szD, List.map_cons, List.map_nil, List.length_cons, List.length_nil, List.replicate, List.cons_append, List.nil_append, List.getElem?_cons_zero, List.getElem?_cons_succ, List.set_cons_zero, List.set_cons_succ, Option.map_some, Option.map_none, List.getD, Option.getD_some, if_true, true_and, and_true, Nat.reduceAdd, Nat.reduceSub, reduceIte, Bool.false_eq_true, Bool.not_true, Bool.not_false, hz]
    exact ⟨hm, hJ _ rfl⟩
  have ga : ∀ {acc : List D} {n : Nat}, acc.length = (rngD 0 n).length → (∀ (i : Nat) (d y : D), (rngD 0 n)[i]? = some d → acc[i]? = some y → okN y = true) → allN acc = true := fun {acc} {n} ha hacc => allN_of fun i y e => by
    have hi : i < (rngD 0 n).length := by rw [← ha]; exact (List.getElem?_eq_some_iff.mp e).1
    exact hacc i _ y (List.getElem?_eq_getElem hi) e
  have a1 := ga ha hacc
  rw [rngD_len] at ha
  simp only [vw_jk, at_0, at_1, at_2, at_3, at_4, ix_40, ix_41, ix_42, ix_43, boolsD_comp, intsD_comp, sh_int, sh_bool, sh_none, sh_str, ev_int, ev_bool, ev_str, ev_none, ev_ni, ev_in, uIfS, evT, ev, uRet, uRetO, uRetN, uDrop, uSet, uSetO, uMove, uFrz, uNext, uBreak, uCont, uApp, uIns, uPut, uPutA, uAug, uRaise, uVar, uC, uOp, uUn, uTru, uTst, uNot, uAnd, uOr, uAndV, uOrV, uNotV, uIf, uNil, uCons, argU, uTup, uLst, allD, onDs, onD, onT, onBool, oI, oIC, oAdd, oEq, oIsN, isN_none, isN_int, isN_bool, isN_str, isN_list, isN_tup, truD, oIx, uSl, uPart, uNoP, oSl, uCB, oLen, oList, oTuple, oInt, oAbs, oAll, oAny, oSum, onB, onI, uIs, uIs2, isT, uCall, uCallP, pick, vw, vw1, okU, okX, nolU, nol, nols, startU, kOf, kQ, kT, onL, uSeqI, uRng1, uRng2, rOk, uEnum, uRep, uTupRev, uYes, ugN, ugT2, wipeU, setU, uIfQ, uRetQ, uSetQ, uPutQ, ixC, szD, List.map_cons, List.map_nil, List.length_cons, List.length_nil, List.replicate, List.cons_append, List.nil_append, List.getElem?_cons_zero, List.getElem?_cons_succ, List.set_cons_zero, List.set_cons_succ, Option.map_some, Option.map_none, List.getD, Option.getD_some, if_true, true_and, and_true, Nat.reduceAdd, Nat.reduceSub, reduceIte, Bool.false_eq_true, Bool.not_true, Bool.not_false]
  rw [hN3]
  refine i_cut M ?_ ?_
  · -- behind the spot
    rintro s' ⟨l, sp, rfl, hl1, hl2, sp0, sp1⟩
    refine i_cut M ?_ ?_
    · rintro s' ⟨l, sp, rfl, hl1, hl2, sp0, sp1⟩
      refine i_cut M ?_ ?_
      · rintro s' ⟨l, sp, rfl, hl1, hl2, sp0, sp1⟩
        refine i_cut M ?_ ?_
        · rintro s' ⟨l, sp, rfl, hl1, hl2, sp0, sp1⟩
          refine i_cut M ?_ ?_
          · rintro s' ⟨l, sp, rfl, hl1, hl2, sp0, sp1⟩
            refine i_cut M ?_ ?_
            · rintro s' ⟨l, sp, rfl, hl1, hl2, sp0, sp1⟩
              simp [vw_jk, at_0, at_1, at_2, at_3, at_4, ix_40, ix_41, ix_42, ix_43, boolsD_comp, intsD_comp, sh_int, sh_bool, sh_none, sh_str, ev_int, ev_bool, ev_str, ev_none, ev_ni, ev_in, uIfS, evT, ev, uRet, uRetO, uRetN, uDrop, uSet, uSetO, uMove, uFrz, uNext, uBreak, uCont, uApp, uIns, uPut, uPutA, uAug, uRaise, uVar, uC, uOp, uUn, uTru, uTst, uNot, uAnd, uOr, uAndV, uOrV, uNotV, uIf, uNil, uCons, argU, uTup, uLst, allD, onDs, onD, onT, onBool, oI, oIC, oAdd, oEq, oIsN, isN_none, isN_int, isN_bool, isN_str, isN_list, isN_tup, truD, oIx, uSl, uPart, uNoP, oSl, uCB, oLen, oList, oTuple, oInt, oAbs, oAll, oAny, oSum, onB, onI, uIs, uIs2, isT, uCall, uCallP, pick, vw, vw1, okU, okX, nolU, nol, nols, startU, kOf, kQ, kT, onL, uSeqI, uRng1, uRng2, rOk, uEnum, uRep, uTupRev, uYes, ugN, ugT2, wipeU, setU, uIfQ, uRetQ, uSetQ, uPutQ, ixC, szD, List.map_cons, List.map_nil, List.length_cons, List.length_nil, List.replicate, List.cons_append, List.nil_append, List.getElem?_cons_zero, List.getElem?_cons_succ, List.set_cons_zero, List.set_cons_succ, Option.map_some, Option.map_none, List.getD, Option.getD_some, if_true, true_and, and_true, Nat.reduceAdd, Nat.reduceSub, reduceIte, Bool.false_eq_true, Bool.not_true, Bool.not_false]
              exact ⟨allN_nols hl2, hp l hl1 hl2⟩
            · -- kind 3
              intro L hL
              simp [vw_jk, at_0, at_1, at_2, at_3, at_4, ix_40, ix_41, ix_42, ix_43, boolsD_comp, intsD_comp, sh_int, sh_bool, sh_none, sh_str, ev_int, ev_bool, ev_str, ev_none, ev_ni, ev_in, uIfS, evT, ev, uRet, uRetO, uRetN, uDrop, uSet, uSetO, uMove, uFrz, uNext, uBreak, uCont, uApp, uIns, uPut, uPutA, uAug, uRaise, uVar, uC, uOp, uUn, uTru, uTst, uNot, uAnd, uOr, uAndV, uOrV, uNotV, uIf, uNil, uCons, argU, uTup, uLst, allD, onDs, onD, onT, onBool, oI, oIC, oAdd, oEq, oIsN, isN_none, isN_int, isN_bool, isN_str, isN_list, isN_tup, truD, oIx, uSl, uPart, uNoP, oSl, uCB, oLen, oList, oTuple, oInt, oAbs, oAll, oAny, oSum, onB, onI, uIs, uIs2, isT, uCall, uCallP, pick, vw, vw1, okU, okX, nolU, nol, nols, startU, kOf, kQ, kT, onL, uSeqI, uRng1, uRng2, rOk, uEnum, uRep, uTupRev, uYes, ugN, ugT2, wipeU, setU, uIfQ, uRetQ, uSetQ, uPutQ, ixC, szD, List.map_cons, List.map_nil, List.length_cons, List.length_nil, List.replicate, List.cons_append, List.nil_append, List.getElem?_cons_zero, List.getElem?_cons_succ, List.set_cons_zero, List.set_cons_succ, Option.map_some, Option.map_none, List.getD, Option.getD_some, if_true, true_and, and_true, Nat.reduceAdd, Nat.reduceSub, reduceIte, Bool.false_eq_true, Bool.not_true, Bool.not_false]
              split
              · refine tk (by omega) (lgS (by omega)) fun b b0 b1 => ?_
                obtain ⟨z, hz⟩ := at_ints b0 b1
                simp [vw_jk, at_0, at_1, at_2, at_3, at_4, ix_40, ix_41, ix_42, ix_43, boolsD_comp, intsD_comp, sh_int, sh_bool, sh_none, sh_str, ev_int, ev_bool, ev_str, ev_none, ev_ni, ev_in, uIfS, evT, ev, uRet, uRetO, uRetN, uDrop, uSet, uSetO, uMove, uFrz, uNext, uBreak, uCont, uApp, uIns, uPut, uPutA, uAug, uRaise, uVar, uC, uOp, uUn, uTru, uTst, uNot, uAnd, uOr, uAndV, uOrV, uNotV, uIf, uNil, uCons, argU, uTup, uLst, allD, onDs, onD, onT, onBool, oI, oIC, oAdd, oEq, oIsN, isN_none, isN_int, isN_bool, isN_str, isN_list, isN_tup, truD, oIx, uSl, uPart, uNoP, oSl, uCB, oLen, oList, oTuple, oInt, oAbs, oAll, oAny, oSum, onB, onI, uIs, uIs2, isT, uCall, uCallP, pick, vw, vw1, okU, okX, nolU, nol, nols, startU, kOf, kQ, kT, onL, uSeqI, uRng1, uRng2, rOk, uEnum, uRep, uTupRev, uYes, ugN, ugT2, wipeU, setU, uIfQ, uRetQ, uSetQ, uPutQ, ixC, szD, List.map_cons, List.map_nil, List.length_cons, List.length_nil, List.replicate, List.cons_append, List.nil_append, List.getElem?_cons_zero, List.getElem?_cons_succ, List.set_cons_zero, List.set_cons_succ, Option.map_some, Option.map_none, List.getD, Option.getD_some, if_true, true_and, and_true, Nat.reduceAdd, Nat.reduceSub, reduceIte, Bool.false_eq_true, Bool.not_true, Bool.not_false, hz]
                refine tk (by decide) (by decide) fun c c0 c1 => ?_
                simp [vw_jk, at_0, at_1, at_2, at_3, at_4, ix_40, ix_41, ix_42, ix_43, boolsD_comp, intsD_comp, sh_int, sh_bool, sh_none, sh_str, ev_int, ev_bool, ev_str, ev_none, ev_ni, ev_in, uIfS, evT, ev, uRet, uRetO, uRetN, uDrop, uSet, uSetO, uMove, uFrz, uNext, uBreak, uCont, uApp, uIns, uPut, uPutA, uAug, uRaise, uVar, uC, uOp, uUn, uTru, uTst, uNot, uAnd, uOr, uAndV, uOrV, uNotV, uIf, uNil, uCons, argU, uTup, uLst, allD, onDs, onD, onT, onBool, oI, oIC, oAdd, oEq, oIsN, isN_none, isN_int, isN_bool, isN_str, isN_list, isN_tup, truD, oIx, uSl, uPart, uNoP, oSl, uCB, oLen, oList, oTuple, oInt, oAbs, oAll, oAny, oSum, onB, onI, uIs, uIs2, isT, uCall, uCallP, pick, vw, vw1, okU, okX, nolU, nol, nols, startU, kOf, kQ, kT, onL, uSeqI, uRng1, uRng2, rOk, uEnum, uRep, uTupRev, uYes, ugN, ugT2, wipeU, setU, uIfQ, uRetQ, uSetQ, uPutQ, ixC, szD, List.map_cons, List.map_nil, List.length_cons, List.length_nil, List.replicate, List.cons_append, List.nil_append, List.getElem?_cons_zero, List.getElem?_cons_succ, List.set_cons_zero, List.set_cons_succ, Option.map_some, Option.map_none, List.getD, Option.getD_some, if_true, true_and, and_true, Nat.reduceAdd, Nat.reduceSub, reduceIte, Bool.false_eq_true, Bool.not_true, Bool.not_false, ixN_nat (n := l.length) (i := sp) (j := sp.toNat) (by omega) (by omega)]
                exact hL _ (hM _ sp _ rfl (by simpa using hl1) (allN_set hl2 rfl) sp0 sp1)
              · exact hL _ (hM _ sp _ rfl hl1 hl2 sp0 sp1)
          · -- thinned out
            intro L hL
            simp [vw_jk, at_0, at_1, at_2, at_3, at_4, ix_40, ix_41, ix_42, ix_43, boolsD_comp, intsD_comp, sh_int, sh_bool, sh_none, sh_str, ev_int, ev_bool, ev_str, ev_none, ev_ni, ev_in, uIfS, evT, ev, uRet, uRetO, uRetN, uDrop, uSet, uSetO, uMove, uFrz, uNext, uBreak, uCont, uApp, uIns, uPut, uPutA, uAug, uRaise, uVar, uC, uOp, uUn, uTru, uTst, uNot, uAnd, uOr, uAndV, uOrV, uNotV, uIf, uNil, uCons, argU, uTup, uLst, allD, onDs, onD, onT, onBool, oI, oIC, oAdd, oEq, oIsN, isN_none, isN_int, isN_bool, isN_str, isN_list, isN_tup, truD, oIx, uSl, uPart, uNoP, oSl, uCB, oLen, oList, oTuple, oInt, oAbs, oAll, oAny, oSum, onB, onI, uIs, uIs2, isT, uCall, uCallP, pick, vw, vw1, okU, okX, nolU, nol, nols, startU, kOf, kQ, kT, onL, uSeqI, uRng1, uRng2, rOk, uEnum, uRep, uTupRev, uYes, ugN, ugT2, wipeU, setU, uIfQ, uRetQ, uSetQ, uPutQ, ixC, szD, List.map_cons, List.map_nil, List.length_cons, List.length_nil, List.replicate, List.cons_append, List.nil_append, List.getElem?_cons_zero, List.getElem?_cons_succ, List.set_cons_zero, List.set_cons_succ, Option.map_some, Option.map_none, List.getD, Option.getD_some, if_true, true_and, and_true, Nat.reduceAdd, Nat.reduceSub, reduceIte, Bool.false_eq_true, Bool.not_true, Bool.not_false]
            split
            · refine tk (by decide) (by decide) fun b b0 b1 => ?_
              simp [vw_jk, at_0, at_1, at_2, at_3, at_4, ix_40, ix_41, ix_42, ix_43, boolsD_comp, intsD_comp, sh_int, sh_bool, sh_none, sh_str, ev_int, ev_bool, ev_str, ev_none, ev_ni, ev_in, uIfS, evT, ev, uRet, uRetO, uRetN, uDrop, uSet, uSetO, uMove, uFrz, uNext, uBreak, uCont, uApp, uIns, uPut, uPutA, uAug, uRaise, uVar, uC, uOp, uUn, uTru, uTst, uNot, uAnd, uOr, uAndV, uOrV, uNotV, uIf, uNil, uCons, argU, uTup, uLst, allD, onDs, onD, onT, onBool, oI, oIC, oAdd, oEq, oIsN, isN_none, isN_int, isN_bool, isN_str, isN_list, isN_tup, truD, oIx, uSl, uPart, uNoP, oSl, uCB, oLen, oList, oTuple, oInt, oAbs, oAll, oAny, oSum, onB, onI, uIs, uIs2, isT, uCall, uCallP, pick, vw, vw1, okU, okX, nolU, nol, nols, startU, kOf, kQ, kT, onL, uSeqI, uRng1, uRng2, rOk, uEnum, uRep, uTupRev, uYes, ugN, ugT2, wipeU, setU, uIfQ, uRetQ, uSetQ, uPutQ, ixC, szD, List.map_cons, List.map_nil, List.length_cons, List.length_nil, List.replicate, List.cons_append, List.nil_append, List.getElem?_cons_zero, List.getElem?_cons_succ, List.set_cons_zero, List.set_cons_succ, Option.map_some, Option.map_none, List.getD, Option.getD_some, if_true, true_and, and_true, Nat.reduceAdd, Nat.reduceSub, reduceIte, Bool.false_eq_true, Bool.not_true, Bool.not_false]
              split
              · refine i_lc ?_
                simp [vw_jk, at_0, at_1, at_2, at_3, at_4, ix_40, ix_41, ix_42, ix_43, boolsD_comp, intsD_comp, sh_int, sh_bool, sh_none, sh_str, ev_int, ev_bool, ev_str, ev_none, ev_ni, ev_in, uIfS, evT, ev, uRet, uRetO, uRetN, uDrop, uSet, uSetO, uMove, uFrz, uNext, uBreak, uCont, uApp, uIns, uPut, uPutA, uAug, uRaise, uVar, uC, uOp, uUn, uTru, uTst, uNot, uAnd, uOr, uAndV, uOrV, uNotV, uIf, uNil, uCons, argU, uTup, uLst, allD, onDs, onD, onT, onBool, oI, oIC, oAdd, oEq, oIsN, isN_none, isN_int, isN_bool, isN_str, isN_list, isN_tup, truD, oIx, uSl, uPart, uNoP, oSl, uCB, oLen, oList, oTuple, oInt, oAbs, oAll, oAny, oSum, onB, onI, uIs, uIs2, isT, uCall, uCallP, pick, vw, vw1, okU, okX, nolU, nol, nols, startU, kOf, kQ, kT, onL, uSeqI, uRng1, uRng2, rOk, uEnum, uRep, uTupRev, uYes, ugN, ugT2, wipeU, setU, uIfQ, uRetQ, uSetQ, uPutQ, ixC, szD, List.map_cons, List.map_nil, List.length_cons, List.length_nil, List.replicate, List.cons_append, List.nil_append, List.getElem?_cons_zero, List.getElem?_cons_succ, List.set_cons_zero, List.set_cons_succ, Option.map_some, Option.map_none, List.getD, Option.getD_some, if_true, true_and, and_true, Nat.reduceAdd, Nat.reduceSub, reduceIte, Bool.false_eq_true, Bool.not_true, Bool.not_false]
                refine lc_rel (fun _ _ y => okN y = true) (lt_line (by omega)) (fun i d e => ⟨_, rfl, by simp, fun acc J hJ => ?_⟩) (fun acc ha hacc => ?_)
                · have hd : okN d = true := List.all_eq_true.mp hl2 d (List.mem_of_getElem? e)
                  simp [vw_jk, at_0, at_1, at_2, at_3, at_4, ix_40, ix_41, ix_42, ix_43, boolsD_comp, intsD_comp, sh_int, sh_bool, sh_none, sh_str, ev_int, ev_bool, ev_str, ev_none, ev_ni, ev_in, uIfS, evT, ev, uRet, uRetO, uRetN, uDrop, uSet, uSetO, uMove, uFrz, uNext, uBreak, uCont, uApp, uIns, uPut, uPutA, uAug, uRaise, uVar, uC, uOp, uUn, uTru, uTst, uNot, uAnd, uOr, uAndV, uOrV, uNotV, uIf, uNil, uCons, argU, uTup, uLst, allD, onDs, onD, onT, onBool, oI, oIC, oAdd, oEq, oIsN, isN_none, isN_int, isN_bool, isN_str, isN_list, isN_tup, truD, oIx, uSl, uPart, uNoP, oSl, uCB, oLen, oList, oTuple, oInt, oAbs, oAll, oAny, oSum, onB, onI, uIs, uIs2, isT, uCall, uCallP, pick, vw, vw1, okU, okX, nolU, nol, nols, startU, kOf, kQ, kT, onL, uSeqI, uRng1, uRng2, rOk, uEnum, uRep, uTupRev, uYes, ugN, ugT2, wipeU, setU, uIfQ, uRetQ, uSetQ, uPutQ, ixC, szD, List.map_cons, List.map_nil, List.length_cons, List.length_nil, List.replicate, List.cons_append, List.nil_append, List.getElem?_cons_zero, List.getElem?_cons_succ, List.set_cons_zero, List.set_cons_succ, Option.map_some, Option.map_none, List.getD, Option.getD_some, if_true, true_and, and_true, Nat.reduceAdd, Nat.reduceSub, reduceIte, Bool.false_eq_true, Bool.not_true, Bool.not_false]
                  refine ⟨by decide, ?_⟩
                  refine tk (by decide) (by decide) fun c c0 c1 => ?_
                  simp [vw_jk, at_0, at_1, at_2, at_3, at_4, ix_40, ix_41, ix_42, ix_43, boolsD_comp, intsD_comp, sh_int, sh_bool, sh_none, sh_str, ev_int, ev_bool, ev_str, ev_none, ev_ni, ev_in, uIfS, evT, ev, uRet, uRetO, uRetN, uDrop, uSet, uSetO, uMove, uFrz, uNext, uBreak, uCont, uApp, uIns, uPut, uPutA, uAug, uRaise, uVar, uC, uOp, uUn, uTru, uTst, uNot, uAnd, uOr, uAndV, uOrV, uNotV, uIf, uNil, uCons, argU, uTup, uLst, allD, onDs, onD, onT, onBool, oI, oIC, oAdd, oEq, oIsN, isN_none, isN_int, isN_bool, isN_str, isN_list, isN_tup, truD, oIx, uSl, uPart, uNoP, oSl, uCB, oLen, oList, oTuple, oInt, oAbs, oAll, oAny, oSum, onB, onI, uIs, uIs2, isT, uCall, uCallP, pick, vw, vw1, okU, okX, nolU, nol, nols, startU, kOf, kQ, kT, onL, uSeqI, uRng1, uRng2, rOk, uEnum, uRep, uTupRev, uYes, ugN, ugT2, wipeU, setU, uIfQ, uRetQ, uSetQ, uPutQ, ixC, szD, List.map_cons, List.map_nil, List.length_cons, List.length_nil, List.replicate, List.cons_append, List.nil_append, List.getElem?_cons_zero, List.getElem?_cons_succ, List.set_cons_zero, List.set_cons_succ, Option.map_some, Option.map_none, List.getD, Option.getD_some, if_true, true_and, and_true, Nat.reduceAdd, Nat.reduceSub, reduceIte, Bool.false_eq_true, Bool.not_true, Bool.not_false]
                  by_cases hc : c = 0
                  · simp [vw_jk, at_0, at_1, at_2, at_3, at_4, ix_40, ix_41, ix_42, ix_43, boolsD_comp, intsD_comp, sh_int, sh_bool, sh_none, sh_str, ev_int, ev_bool, ev_str, ev_none, ev_ni, ev_in, uIfS, evT, ev, uRet, uRetO, uRetN, uDrop, uSet, uSetO, uMove, uFrz, uNext, uBreak, uCont, uApp, uIns, uPut, uPutA, uAug, uRaise, uVar, uC, uOp, uUn, uTru, uTst, uNot, uAnd, uOr, uAndV, uOrV, uNotV, uIf, uNil, uCons, argU, uTup, uLst, allD, onDs, onD, onT, onBool, oI, oIC, oAdd, oEq, oIsN, isN_none, isN_int, isN_bool, isN_str, isN_list, isN_tup, truD, oIx, uSl, uPart, uNoP, oSl, uCB, oLen, oList, oTuple, oInt, oAbs, oAll, oAny, oSum, onB, onI, uIs, uIs2, isT, uCall, uCallP, pick, vw, vw1, okU, okX, nolU, nol, nols, startU, kOf, kQ, kT, onL, uSeqI, uRng1, uRng2, rOk, uEnum, uRep, uTupRev, uYes, ugN, ugT2, wipeU, setU, uIfQ, uRetQ, uSetQ, uPutQ, ixC, szD, List.map_cons, List.map_nil, List.length_cons, List.length_nil, List.replicate, List.cons_append, List.nil_append, List.getElem?_cons_zero, List.getElem?_cons_succ, List.set_cons_zero, List.set_cons_succ, Option.map_some, Option.map_none, List.getD, Option.getD_some, if_true, true_and, and_true, Nat.reduceAdd, Nat.reduceSub, reduceIte, Bool.false_eq_true, Bool.not_true, Bool.not_false, hc]
                    exact hJ _ rfl
                  · simp [vw_jk, at_0, at_1, at_2, at_3, at_4, ix_40, ix_41, ix_42, ix_43, boolsD_comp, intsD_comp, sh_int, sh_bool, sh_none, sh_str, ev_int, ev_bool, ev_str, ev_none, ev_ni, ev_in, uIfS, evT, ev, uRet, uRetO, uRetN, uDrop, uSet, uSetO, uMove, uFrz, uNext, uBreak, uCont, uApp, uIns, uPut, uPutA, uAug, uRaise, uVar, uC, uOp, uUn, uTru, uTst, uNot, uAnd, uOr, uAndV, uOrV, uNotV, uIf, uNil, uCons, argU, uTup, uLst, allD, onDs, onD, onT, onBool, oI, oIC, oAdd, oEq, oIsN, isN_none, isN_int, isN_bool, isN_str, isN_list, isN_tup, truD, oIx, uSl, uPart, uNoP, oSl, uCB, oLen, oList, oTuple, oInt, oAbs, oAll, oAny, oSum, onB, onI, uIs, uIs2, isT, uCall, uCallP, pick, vw, vw1, okU, okX, nolU, nol, nols, startU, kOf, kQ, kT, onL, uSeqI, uRng1, uRng2, rOk, uEnum, uRep, uTupRev, uYes, ugN, ugT2, wipeU, setU, uIfQ, uRetQ, uSetQ, uPutQ, ixC, szD, List.map_cons, List.map_nil, List.length_cons, List.length_nil, List.replicate, List.cons_append, List.nil_append, List.getElem?_cons_zero, List.getElem?_cons_succ, List.set_cons_zero, List.set_cons_succ, Option.map_some, Option.map_none, List.getD, Option.getD_some, if_true, true_and, and_true, Nat.reduceAdd, Nat.reduceSub, reduceIte, Bool.false_eq_true, Bool.not_true, Bool.not_false, hc]
                    exact hJ _ hd
                · have a2 : allN acc = true := allN_of fun i y e => by
                    have hi : i < l.length := by rw [← ha]; exact (List.getElem?_eq_some_iff.mp e).1
                    exact hacc i _ y (List.getElem?_eq_getElem hi) e
                  simp [vw_jk, at_0, at_1, at_2, at_3, at_4, ix_40, ix_41, ix_42, ix_43, boolsD_comp, intsD_comp, sh_int, sh_bool, sh_none, sh_str, ev_int, ev_bool, ev_str, ev_none, ev_ni, ev_in, uIfS, evT, ev, uRet, uRetO, uRetN, uDrop, uSet, uSetO, uMove, uFrz, uNext, uBreak, uCont, uApp, uIns, uPut, uPutA, uAug, uRaise, uVar, uC, uOp, uUn, uTru, uTst, uNot, uAnd, uOr, uAndV, uOrV, uNotV, uIf, uNil, uCons, argU, uTup, uLst, allD, onDs, onD, onT, onBool, oI, oIC, oAdd, oEq, oIsN, isN_none, isN_int, isN_bool, isN_str, isN_list, isN_tup, truD, oIx, uSl, uPart, uNoP, oSl, uCB, oLen, oList, oTuple, oInt, oAbs, oAll, oAny, oSum, onB, onI, uIs, uIs2, isT, uCall, uCallP, pick, vw, vw1, okU, okX, nolU, nol, nols, startU, kOf, kQ, kT, onL, uSeqI, uRng1, uRng2, rOk, uEnum, uRep, uTupRev, uYes, ugN, ugT2, wipeU, setU, uIfQ, uRetQ, uSetQ, uPutQ, ixC, szD, List.map_cons, List.map_nil, List.length_cons, List.length_nil, List.replicate, List.cons_append, List.nil_append, List.getElem?_cons_zero, List.getElem?_cons_succ, List.set_cons_zero, List.set_cons_succ, Option.map_some, Option.map_none, List.getD, Option.getD_some, if_true, true_and, and_true, Nat.reduceAdd, Nat.reduceSub, reduceIte, Bool.false_eq_true, Bool.not_true, Bool.not_false]
                  exact ⟨allN_nols a2, hL _ (hM acc sp _ rfl (by omega) a2 sp0 sp1)⟩
              · exact hL _ (hM _ sp _ rfl hl1 hl2 sp0 sp1)
            · exact hL _ (hM _ sp _ rfl hl1 hl2 sp0 sp1)
        · -- kind 2
          intro L hL
          simp [vw_jk, at_0, at_1, at_2, at_3, at_4, ix_40, ix_41, ix_42, ix_43, boolsD_comp, intsD_comp, sh_int, sh_bool, sh_none, sh_str, ev_int, ev_bool, ev_str, ev_none, ev_ni, ev_in, uIfS, evT, ev, uRet, uRetO, uRetN, uDrop, uSet, uSetO, uMove, uFrz, uNext, uBreak, uCont, uApp, uIns, uPut, uPutA, uAug, uRaise, uVar, uC, uOp, uUn, uTru, uTst, uNot, uAnd, uOr, uAndV, uOrV, uNotV, uIf, uNil, uCons, argU, uTup, uLst, allD, onDs, onD, onT, onBool, oI, oIC, oAdd, oEq, oIsN, isN_none, isN_int, isN_bool, isN_str, isN_list, isN_tup, truD, oIx, uSl, uPart, uNoP, oSl, uCB, oLen, oList, oTuple, oInt, oAbs, oAll, oAny, oSum, onB, onI, uIs, uIs2, isT, uCall, uCallP, pick, vw, vw1, okU, okX, nolU, nol, nols, startU, kOf, kQ, kT, onL, uSeqI, uRng1, uRng2, rOk, uEnum, uRep, uTupRev, uYes, ugN, ugT2, wipeU, setU, uIfQ, uRetQ, uSetQ, uPutQ, ixC, szD, List.map_cons, List.map_nil, List.length_cons, List.length_nil, List.replicate, List.cons_append, List.nil_append, List.getElem?_cons_zero, List.getElem?_cons_succ, List.set_cons_zero, List.set_cons_succ, Option.map_some, Option.map_none, List.getD, Option.getD_some, if_true, true_and, and_true, Nat.reduceAdd, Nat.reduceSub, reduceIte, Bool.false_eq_true, Bool.not_true, Bool.not_false]
          split
          · refine i_lc ?_
            simp [vw_jk, at_0, at_1, at_2, at_3, at_4, ix_40, ix_41, ix_42, ix_43, boolsD_comp, intsD_comp, sh_int, sh_bool, sh_none, sh_str, ev_int, ev_bool, ev_str, ev_none, ev_ni, ev_in, uIfS, evT, ev, uRet, uRetO, uRetN, uDrop, uSet, uSetO, uMove, uFrz, uNext, uBreak, uCont, uApp, uIns, uPut, uPutA, uAug, uRaise, uVar, uC, uOp, uUn, uTru, uTst, uNot, uAnd, uOr, uAndV, uOrV, uNotV, uIf, uNil, uCons, argU, uTup, uLst, allD, onDs, onD, onT, onBool, oI, oIC, oAdd, oEq, oIsN, isN_none, isN_int, isN_bool, isN_str, isN_list, isN_tup, truD, oIx, uSl, uPart, uNoP, oSl, uCB, oLen, oList, oTuple, oInt, oAbs, oAll, oAny, oSum, onB, onI, uIs, uIs2, isT, uCall, uCallP, pick, vw, vw1, okU, okX, nolU, nol, nols, startU, kOf, kQ, kT, onL, uSeqI, uRng1, uRng2, rOk, uEnum, uRep, uTupRev, uYes, ugN, ugT2, wipeU, setU, uIfQ, uRetQ, uSetQ, uPutQ, ixC, szD, List.map_cons, List.map_nil, List.length_cons, List.length_nil, List.replicate, List.cons_append, List.nil_append, List.getElem?_cons_zero, List.getElem?_cons_succ, List.set_cons_zero, List.set_cons_succ, Option.map_some, Option.map_none, List.getD, Option.getD_some, if_true, true_and, and_true, Nat.reduceAdd, Nat.reduceSub, reduceIte, Bool.false_eq_true, Bool.not_true, Bool.not_false]
            refine ⟨⟨by omega, by omega⟩, ?_⟩
            refine lc_rel (fun _ _ y => okN y = true) (by rw [rngD_len]; exact lt_line (by omega)) (fun i d e => ⟨_, rfl, by simp, fun acc J hJ => ?_⟩) (fun acc ha hacc => ?_)
            · simp [vw_jk, at_0, at_1, at_2, at_3, at_4, ix_40, ix_41, ix_42, ix_43, boolsD_comp, intsD_comp, sh_int, sh_bool, sh_none, sh_str, ev_int, ev_bool, ev_str, ev_none, ev_ni, ev_in, uIfS, evT, ev, uRet, uRetO, uRetN, uDrop, uSet, uSetO, uMove, uFrz, uNext, uBreak, uCont, uApp, uIns, uPut, uPutA, uAug, uRaise, uVar, uC, uOp, uUn, uTru, uTst, uNot, uAnd, uOr, uAndV, uOrV, uNotV, uIf, uNil, uCons, argU, uTup, uLst, allD, onDs, onD, onT, onBool, oI, oIC, oAdd, oEq, oIsN, isN_none, isN_int, isN_bool, isN_str, isN_list, isN_tup, truD, oIx, uSl, uPart, uNoP, oSl, uCB, oLen, oList, oTuple, oInt, oAbs, oAll, oAny, oSum, onB, onI, uIs, uIs2, isT, uCall, uCallP, pick, vw, vw1, okU, okX, nolU, nol, nols, startU, kOf, kQ, kT, onL, uSeqI, uRng1, uRng2, rOk, uEnum, uRep, uTupRev, uYes, ugN, ugT2, wipeU, setU, uIfQ, uRetQ, uSetQ, uPutQ, ixC, szD, List.map_cons, List.map_nil, List.length_cons, List.length_nil, List.replicate, List.cons_append, List.nil_append, List.getElem?_cons_zero, List.getElem?_cons_succ, List.set_cons_zero, List.set_cons_succ, Option.map_some, Option.map_none, List.getD, Option.getD_some, if_true, true_and, and_true, Nat.reduceAdd, Nat.reduceSub, reduceIte, Bool.false_eq_true, Bool.not_true, Bool.not_false]
              refine tk (by omega) (lgS (by omega)) fun b b0 b1 => ?_
              obtain ⟨z, hz⟩ := at_ints b0 b1
              simp [vw_jk, at_0, at_1, at_2, at_3, at_4, ix_40, ix_41, ix_42, ix_43, boolsD_comp, intsD_comp, sh_int, sh_bool, sh_none, sh_str, ev_int, ev_bool, ev_str, ev_none, ev_ni, ev_in, uIfS, evT, ev, uRet, uRetO, uRetN, uDrop, uSet, uSetO, uMove, uFrz, uNext, uBreak, uCont, uApp, uIns, uPut, uPutA, uAug, uRaise, uVar, uC, uOp, uUn, uTru, uTst, uNot, uAnd, uOr, uAndV, uOrV, uNotV, uIf, uNil, uCons, argU, uTup, uLst, allD, onDs, onD, onT, onBool, oI, oIC, oAdd, oEq, oIsN, isN_none, isN_int, isN_bool, isN_str, isN_list, isN_tup, truD, oIx, uSl, uPart, uNoP, oSl, uCB, oLen, oList, oTuple, oInt, oAbs, oAll, oAny, oSum, onB, onI, uIs, uIs2, isT, uCall, uCallP, pick, vw, vw1, okU, okX, nolU, nol, nols, startU, kOf, kQ, kT, onL, uSeqI, uRng1, uRng2, rOk, uEnum, uRep, uTupRev, uYes, ugN, ugT2, wipeU, setU, uIfQ, uRetQ, uSetQ, uPutQ, ixC, szD, List.map_cons, List.map_nil, List.length_cons, List.length_nil, List.replicate, List.cons_append, List.nil_append, List.getElem?_cons_zero, List.getElem?_cons_succ, List.set_cons_zero, List.set_cons_succ, Option.map_some, Option.map_none, List.getD, Option.getD_some, if_true, true_and, and_true, Nat.reduceAdd, Nat.reduceSub, reduceIte, Bool.false_eq_true, Bool.not_true, Bool.not_false, hz]
              exact hJ _ rfl
            · have a2 := ga ha hacc
              rw [rngD_len] at ha
              exact hL _ (hM acc sp _ rfl (by omega) a2 sp0 sp1)
          · exact hL _ (hM _ sp _ rfl hl1 hl2 sp0 sp1)
      · -- kind 1
        intro L hL
        simp [vw_jk, at_0, at_1, at_2, at_3, at_4, ix_40, ix_41, ix_42, ix_43, boolsD_comp, intsD_comp, sh_int, sh_bool, sh_none, sh_str, ev_int, ev_bool, ev_str, ev_none, ev_ni, ev_in, uIfS, evT, ev, uRet, uRetO, uRetN, uDrop, uSet, uSetO, uMove, uFrz, uNext, uBreak, uCont, uApp, uIns, uPut, uPutA, uAug, uRaise, uVar, uC, uOp, uUn, uTru, uTst, uNot, uAnd, uOr, uAndV, uOrV, uNotV, uIf, uNil, uCons, argU, uTup, uLst, allD, onDs, onD, onT, onBool, oI, oIC, oAdd, oEq, oIsN, isN_none, isN_int, isN_bool, isN_str, isN_list, isN_tup, truD, oIx, uSl, uPart, uNoP, oSl, uCB, oLen, oList, oTuple, oInt, oAbs, oAll, oAny, oSum, onB, onI, uIs, uIs2, isT, uCall, uCallP, pick, vw, vw1, okU, okX, nolU, nol, nols, startU, kOf, kQ, kT, onL, uSeqI, uRng1, uRng2, rOk, uEnum, uRep, uTupRev, uYes, ugN, ugT2, wipeU, setU, uIfQ, uRetQ, uSetQ, uPutQ, ixC, szD, List.map_cons, List.map_nil, List.length_cons, List.length_nil, List.replicate, List.cons_append, List.nil_append, List.getElem?_cons_zero, List.getElem?_cons_succ, List.set_cons_zero, List.set_cons_succ, Option.map_some, Option.map_none, List.getD, Option.getD_some, if_true, true_and, and_true, Nat.reduceAdd, Nat.reduceSub, reduceIte, Bool.false_eq_true, Bool.not_true, Bool.not_false]
        split
        · refine i_seq fun L2 hL2 => ?_
          simp [vw_jk, at_0, at_1, at_2, at_3, at_4, ix_40, ix_41, ix_42, ix_43, boolsD_comp, intsD_comp, sh_int, sh_bool, sh_none, sh_str, ev_int, ev_bool, ev_str, ev_none, ev_ni, ev_in, uIfS, evT, ev, uRet, uRetO, uRetN, uDrop, uSet, uSetO, uMove, uFrz, uNext, uBreak, uCont, uApp, uIns, uPut, uPutA, uAug, uRaise, uVar, uC, uOp, uUn, uTru, uTst, uNot, uAnd, uOr, uAndV, uOrV, uNotV, uIf, uNil, uCons, argU, uTup, uLst, allD, onDs, onD, onT, onBool, oI, oIC, oAdd, oEq, oIsN, isN_none, isN_int, isN_bool, isN_str, isN_list, isN_tup, truD, oIx, uSl, uPart, uNoP, oSl, uCB, oLen, oList, oTuple, oInt, oAbs, oAll, oAny, oSum, onB, onI, uIs, uIs2, isT, uCall, uCallP, pick, vw, vw1, okU, okX, nolU, nol, nols, startU, kOf, kQ, kT, onL, uSeqI, uRng1, uRng2, rOk, uEnum, uRep, uTupRev, uYes, ugN, ugT2, wipeU, setU, uIfQ, uRetQ, uSetQ, uPutQ, ixC, szD, List.map_cons, List.map_nil, List.length_cons, List.length_nil, List.replicate, List.cons_append, List.nil_append, List.getElem?_cons_zero, List.getElem?_cons_succ, List.set_cons_zero, List.set_cons_succ, Option.map_some, Option.map_none, List.getD, Option.getD_some, if_true, true_and, and_true, Nat.reduceAdd, Nat.reduceSub, reduceIte, Bool.false_eq_true, Bool.not_true, Bool.not_false]
          refine i_lc ?_
          simp [vw_jk, at_0, at_1, at_2, at_3, at_4, ix_40, ix_41, ix_42, ix_43, boolsD_comp, intsD_comp, sh_int, sh_bool, sh_none, sh_str, ev_int, ev_bool, ev_str, ev_none, ev_ni, ev_in, uIfS, evT, ev, uRet, uRetO, uRetN, uDrop, uSet, uSetO, uMove, uFrz, uNext, uBreak, uCont, uApp, uIns, uPut, uPutA, uAug, uRaise, uVar, uC, uOp, uUn, uTru, uTst, uNot, uAnd, uOr, uAndV, uOrV, uNotV, uIf, uNil, uCons, argU, uTup, uLst, allD, onDs, onD, onT, onBool, oI, oIC, oAdd, oEq, oIsN, isN_none, isN_int, isN_bool, isN_str, isN_list, isN_tup, truD, oIx, uSl, uPart, uNoP, oSl, uCB, oLen, oList, oTuple, oInt, oAbs, oAll, oAny, oSum, onB, onI, uIs, uIs2, isT, uCall, uCallP, pick, vw, vw1, okU, okX, nolU, nol, nols, startU, kOf, kQ, kT, onL, uSeqI, uRng1, uRng2, rOk, uEnum, uRep, uTupRev, uYes, ugN, ugT2, wipeU, setU, uIfQ, uRetQ, uSetQ, uPutQ, ixC, szD, List.map_cons, List.map_nil, List.length_cons, List.length_nil, List.replicate, List.cons_append, List.nil_append, List.getElem?_cons_zero, List.getElem?_cons_succ, List.set_cons_zero, List.set_cons_succ, Option.map_some, Option.map_none, List.getD, Option.getD_some, if_true, true_and, and_true, Nat.reduceAdd, Nat.reduceSub, reduceIte, Bool.false_eq_true, Bool.not_true, Bool.not_false]
          refine ⟨⟨by omega, by omega⟩, ?_⟩
          refine lc_rel (fun _ _ y => okN y = true) (by rw [rngD_len]; exact lt_line (by omega)) (fun i d e => ⟨_, rfl, by simp, fun acc J hJ => ?_⟩) (fun acc ha hacc => ?_)
          · simp [vw_jk, at_0, at_1, at_2, at_3, at_4, ix_40, ix_41, ix_42, ix_43, boolsD_comp, intsD_comp, sh_int, sh_bool, sh_none, sh_str, ev_int, ev_bool, ev_str, ev_none, ev_ni, ev_in, uIfS, evT, ev, uRet, uRetO, uRetN, uDrop, uSet, uSetO, uMove, uFrz, uNext, uBreak, uCont, uApp, uIns, uPut, uPutA, uAug, uRaise, uVar, uC, uOp, uUn, uTru, uTst, uNot, uAnd, uOr, uAndV, uOrV, uNotV, uIf, uNil, uCons, argU, uTup, uLst, allD, onDs, onD, onT, onBool, oI, oIC, oAdd, oEq, oIsN, isN_none, isN_int, isN_bool, isN_str, isN_list, isN_tup, truD, oIx, uSl, uPart, uNoP, oSl, uCB, oLen, oList, oTuple, oInt, oAbs, oAll, oAny, oSum, onB, onI, uIs, uIs2, isT, uCall, uCallP, pick, vw, vw1, okU, okX, nolU, nol, nols, startU, kOf, kQ, kT, onL, uSeqI, uRng1, uRng2, rOk, uEnum, uRep, uTupRev, uYes, ugN, ugT2, wipeU, setU, uIfQ, uRetQ, uSetQ, uPutQ, ixC, szD, List.map_cons, List.map_nil, List.length_cons, List.length_nil, List.replicate, List.cons_append, List.nil_append, List.getElem?_cons_zero, List.getElem?_cons_succ, List.set_cons_zero, List.set_cons_succ, Option.map_some, Option.map_none, List.getD, Option.getD_some, if_true, true_and, and_true, Nat.reduceAdd, Nat.reduceSub, reduceIte, Bool.false_eq_true, Bool.not_true, Bool.not_false]
            exact hJ _ rfl
          · have a2 := ga ha hacc
            rw [rngD_len] at ha
            simp only [vw_jk, at_0, at_1, at_2, at_3, at_4, ix_40, ix_41, ix_42, ix_43, boolsD_comp, intsD_comp, sh_int, sh_bool, sh_none, sh_str, ev_int, ev_bool, ev_str, ev_none, ev_ni, ev_in, uIfS, evT, ev, uRet, uRetO, uRetN, uDrop, uSet, uSetO, uMove, uFrz, uNext, uBreak, uCont, uApp, uIns, uPut, uPutA, uAug, uRaise, uVar, uC, uOp, uUn, uTru, uTst, uNot, uAnd, uOr, uAndV, uOrV, uNotV, uIf, uNil, uCons, argU, uTup, uLst, allD, onDs, onD, onT, onBool, oI, oIC, oAdd, oEq, oIsN, isN_none, isN_int, isN_bool, isN_str, isN_list, isN_tup, truD, oIx, uSl, uPart, uNoP, oSl, uCB, oLen, oList, oTuple, oInt, oAbs, oAll, oAny, oSum, onB, onI, uIs, uIs2, isT, uCall, uCallP, pick, vw, vw1, okU, okX, nolU, nol, nols, startU, kOf, kQ, kT, onL, uSeqI, uRng1, uRng2, rOk, uEnum, uRep, uTupRev, uYes, ugN, ugT2, wipeU, setU, uIfQ, uRetQ, uSetQ, uPutQ, ixC, szD, List.map_cons, List.map_nil, List.length_cons, List.length_nil, List.replicate, List.cons_append, List.nil_append, List.getElem?_cons_zero, List.getElem?_cons_succ, List.set_cons_zero, List.set_cons_succ, Option.map_some, Option.map_none, List.getD, Option.getD_some, if_true, true_and, and_true, Nat.reduceAdd, Nat.reduceSub, reduceIte, Bool.false_eq_true, Bool.not_true, Bool.not_false]
            rw [hL2]
            simp [vw_jk, at_0, at_1, at_2, at_3, at_4, ix_40, ix_41, ix_42, ix_43, boolsD_comp, intsD_comp, sh_int, sh_bool, sh_none, sh_str, ev_int, ev_bool, ev_str, ev_none, ev_ni, ev_in, uIfS, evT, ev, uRet, uRetO, uRetN, uDrop, uSet, uSetO, uMove, uFrz, uNext, uBreak, uCont, uApp, uIns, uPut, uPutA, uAug, uRaise, uVar, uC, uOp, uUn, uTru, uTst, uNot, uAnd, uOr, uAndV, uOrV, uNotV, uIf, uNil, uCons, argU, uTup, uLst, allD, onDs, onD, onT, onBool, oI, oIC, oAdd, oEq, oIsN, isN_none, isN_int, isN_bool, isN_str, isN_list, isN_tup, truD, oIx, uSl, uPart, uNoP, oSl, uCB, oLen, oList, oTuple, oInt, oAbs, oAll, oAny, oSum, onB, onI, uIs, uIs2, isT, uCall, uCallP, pick, vw, vw1, okU, okX, nolU, nol, nols, startU, kOf, kQ, kT, onL, uSeqI, uRng1, uRng2, rOk, uEnum, uRep, uTupRev, uYes, ugN, ugT2, wipeU, setU, uIfQ, uRetQ, uSetQ, uPutQ, ixC, szD, List.map_cons, List.map_nil, List.length_cons, List.length_nil, List.replicate, List.cons_append, List.nil_append, List.getElem?_cons_zero, List.getElem?_cons_succ, List.set_cons_zero, List.set_cons_succ, Option.map_some, Option.map_none, List.getD, Option.getD_some, if_true, true_and, and_true, Nat.reduceAdd, Nat.reduceSub, reduceIte, Bool.false_eq_true, Bool.not_true, Bool.not_false]
            refine tk (by omega) (lgS (by omega)) fun b b0 b1 => ?_
            obtain ⟨z, hz⟩ := at_ints b0 b1
            simp [vw_jk, at_0, at_1, at_2, at_3, at_4, ix_40, ix_41, ix_42, ix_43, boolsD_comp, intsD_comp, sh_int, sh_bool, sh_none, sh_str, ev_int, ev_bool, ev_str, ev_none, ev_ni, ev_in, uIfS, evT, ev, uRet, uRetO, uRetN, uDrop, uSet, uSetO, uMove, uFrz, uNext, uBreak, uCont, uApp, uIns, uPut, uPutA, uAug, uRaise, uVar, uC, uOp, uUn, uTru, uTst, uNot, uAnd, uOr, uAndV, uOrV, uNotV, uIf, uNil, uCons, argU, uTup, uLst, allD, onDs, onD, onT, onBool, oI, oIC, oAdd, oEq, oIsN, isN_none, isN_int, isN_bool, isN_str, isN_list, isN_tup, truD, oIx, uSl, uPart, uNoP, oSl, uCB, oLen, oList, oTuple, oInt, oAbs, oAll, oAny, oSum, onB, onI, uIs, uIs2, isT, uCall, uCallP, pick, vw, vw1, okU, okX, nolU, nol, nols, startU, kOf, kQ, kT, onL, uSeqI, uRng1, uRng2, rOk, uEnum, uRep, uTupRev, uYes, ugN, ugT2, wipeU, setU, uIfQ, uRetQ, uSetQ, uPutQ, ixC, szD, List.map_cons, List.map_nil, List.length_cons, List.length_nil, List.replicate, List.cons_append, List.nil_append, List.getElem?_cons_zero, List.getElem?_cons_succ, List.set_cons_zero, List.set_cons_succ, Option.map_some, Option.map_none, List.getD, Option.getD_some, if_true, true_and, and_true, Nat.reduceAdd, Nat.reduceSub, reduceIte, Bool.false_eq_true, Bool.not_true, Bool.not_false, hz, ixN_nat (n := acc.length) (i := sp) (j := sp.toNat) (by omega) (by omega)]
            exact hL _ (hM _ sp _ rfl (by simp; omega) (allN_set a2 rfl) sp0 sp1)
        · exact hL _ (hM _ sp _ rfl hl1 hl2 sp0 sp1)
    · -- kind 0
      intro L hL
      simp [vw_jk, at_0, at_1, at_2, at_3, at_4, ix_40, ix_41, ix_42, ix_43, boolsD_comp, intsD_comp, sh_int, sh_bool, sh_none, sh_str, ev_int, ev_bool, ev_str, ev_none, ev_ni, ev_in, uIfS, evT, ev, uRet, uRetO, uRetN, uDrop, uSet, uSetO, uMove, uFrz, uNext, uBreak, uCont, uApp, uIns, uPut, uPutA, uAug, uRaise, uVar, uC, uOp, uUn, uTru, uTst, uNot, uAnd, uOr, uAndV, uOrV, uNotV, uIf, uNil, uCons, argU, uTup, uLst, allD, onDs, onD, onT, onBool, oI, oIC, oAdd, oEq, oIsN, isN_none, isN_int, isN_bool, isN_str, isN_list, isN_tup, truD, oIx, uSl, uPart, uNoP, oSl, uCB, oLen, oList, oTuple, oInt, oAbs, oAll, oAny, oSum, onB, onI, uIs, uIs2, isT, uCall, uCallP, pick, vw, vw1, okU, okX, nolU, nol, nols, startU, kOf, kQ, kT, onL, uSeqI, uRng1, uRng2, rOk, uEnum, uRep, uTupRev, uYes, ugN, ugT2, wipeU, setU, uIfQ, uRetQ, uSetQ, uPutQ, ixC, szD, List.map_cons, List.map_nil, List.length_cons, List.length_nil, List.replicate, List.cons_append, List.nil_append, List.getElem?_cons_zero, List.getElem?_cons_succ, List.set_cons_zero, List.set_cons_succ, Option.map_some, Option.map_none, List.getD, Option.getD_some, if_true, true_and, and_true, Nat.reduceAdd, Nat.reduceSub, reduceIte, Bool.false_eq_true, Bool.not_true, Bool.not_false]
      split
      · refine i_lc ?_
        simp [vw_jk, at_0, at_1, at_2, at_3, at_4, ix_40, ix_41, ix_42, ix_43, boolsD_comp, intsD_comp, sh_int, sh_bool, sh_none, sh_str, ev_int, ev_bool, ev_str, ev_none, ev_ni, ev_in, uIfS, evT, ev, uRet, uRetO, uRetN, uDrop, uSet, uSetO, uMove, uFrz, uNext, uBreak, uCont, uApp, uIns, uPut, uPutA, uAug, uRaise, uVar, uC, uOp, uUn, uTru, uTst, uNot, uAnd, uOr, uAndV, uOrV, uNotV, uIf, uNil, uCons, argU, uTup, uLst, allD, onDs, onD, onT, onBool, oI, oIC, oAdd, oEq, oIsN, isN_none, isN_int, isN_bool, isN_str, isN_list, isN_tup, truD, oIx, uSl, uPart, uNoP, oSl, uCB, oLen, oList, oTuple, oInt, oAbs, oAll, oAny, oSum, onB, onI, uIs, uIs2, isT, uCall, uCallP, pick, vw, vw1, okU, okX, nolU, nol, nols, startU, kOf, kQ, kT, onL, uSeqI, uRng1, uRng2, rOk, uEnum, uRep, uTupRev, uYes, ugN, ugT2, wipeU, setU, uIfQ, uRetQ, uSetQ, uPutQ, ixC, szD, List.map_cons, List.map_nil, List.length_cons, List.length_nil, List.replicate, List.cons_append, List.nil_append, List.getElem?_cons_zero, List.getElem?_cons_succ, List.set_cons_zero, List.set_cons_succ, Option.map_some, Option.map_none, List.getD, Option.getD_some, if_true, true_and, and_true, Nat.reduceAdd, Nat.reduceSub, reduceIte, Bool.false_eq_true, Bool.not_true, Bool.not_false]
        refine ⟨⟨by omega, by omega⟩, ?_⟩
        refine lc_rel (fun _ _ y => okN y = true) (by rw [rngD_len]; exact lt_line (by omega)) (fun i d e => ⟨_, rfl, by simp, fun acc J hJ => ?_⟩) (fun acc ha hacc => ?_)
        · simp [vw_jk, at_0, at_1, at_2, at_3, at_4, ix_40, ix_41, ix_42, ix_43, boolsD_comp, intsD_comp, sh_int, sh_bool, sh_none, sh_str, ev_int, ev_bool, ev_str, ev_none, ev_ni, ev_in, uIfS, evT, ev, uRet, uRetO, uRetN, uDrop, uSet, uSetO, uMove, uFrz, uNext, uBreak, uCont, uApp, uIns, uPut, uPutA, uAug, uRaise, uVar, uC, uOp, uUn, uTru, uTst, uNot, uAnd, uOr, uAndV, uOrV, uNotV, uIf, uNil, uCons, argU, uTup, uLst, allD, onDs, onD, onT, onBool, oI, oIC, oAdd, oEq, oIsN, isN_none, isN_int, isN_bool, isN_str, isN_list, isN_tup, truD, oIx, uSl, uPart, uNoP, oSl, uCB, oLen, oList, oTuple, oInt, oAbs, oAll, oAny, oSum, onB, onI, uIs, uIs2, isT, uCall, uCallP, pick, vw, vw1, okU, okX, nolU, nol, nols, startU, kOf, kQ, kT, onL, uSeqI, uRng1, uRng2, rOk, uEnum, uRep, uTupRev, uYes, ugN, ugT2, wipeU, setU, uIfQ, uRetQ, uSetQ, uPutQ, ixC, szD, List.map_cons, List.map_nil, List.length_cons, List.length_nil, List.replicate, List.cons_append, List.nil_append, List.getElem?_cons_zero, List.getElem?_cons_succ, List.set_cons_zero, List.set_cons_succ, Option.map_some, Option.map_none, List.getD, Option.getD_some, if_true, true_and, and_true, Nat.reduceAdd, Nat.reduceSub, reduceIte, Bool.false_eq_true, Bool.not_true, Bool.not_false]
          exact hJ _ rfl
        · have a2 := ga ha hacc
          rw [rngD_len] at ha
          exact hL _ (hM acc sp _ rfl (by omega) a2 sp0 sp1)
      · exact hL _ (hM _ sp _ rfl hl1 hl2 sp0 sp1)
  · intro L hL
    simp [vw_jk, at_0, at_1, at_2, at_3, at_4, ix_40, ix_41, ix_42, ix_43, boolsD_comp, intsD_comp, sh_int, sh_bool, sh_none, sh_str, ev_int, ev_bool, ev_str, ev_none, ev_ni, ev_in, uIfS, evT, ev, uRet, uRetO, uRetN, uDrop, uSet, uSetO, uMove, uFrz, uNext, uBreak, uCont, uApp, uIns, uPut, uPutA, uAug, uRaise, uVar, uC, uOp, uUn, uTru, uTst, uNot, uAnd, uOr, uAndV, uOrV, uNotV, uIf, uNil, uCons, argU, uTup, uLst, allD, onDs, onD, onT, onBool, oI, oIC, oAdd, oEq, oIsN, isN_none, isN_int, isN_bool, isN_str, isN_list, isN_tup, truD, oIx, uSl, uPart, uNoP, oSl, uCB, oLen, oList, oTuple, oInt, oAbs, oAll, oAny, oSum, onB, onI, uIs, uIs2, isT, uCall, uCallP, pick, vw, vw1, okU, okX, nolU, nol, nols, startU, kOf, kQ, kT, onL, uSeqI, uRng1, uRng2, rOk, uEnum, uRep, uTupRev, uYes, ugN, ugT2, wipeU, setU, uIfQ, uRetQ, uSetQ, uPutQ, ixC, szD, List.map_cons, List.map_nil, List.length_cons, List.length_nil, List.replicate, List.cons_append, List.nil_append, List.getElem?_cons_zero, List.getElem?_cons_succ, List.set_cons_zero, List.set_cons_succ, Option.map_some, Option.map_none, List.getD, Option.getD_some, if_true, true_and, and_true, Nat.reduceAdd, Nat.reduceSub, reduceIte, Bool.false_eq_true, Bool.not_true, Bool.not_false]
    refine tk hm (lgS (by omega)) fun sp sp0 sp1 => ?_
    simp [vw_jk, at_0, at_1, at_2, at_3, at_4, ix_40, ix_41, ix_42, ix_43, boolsD_comp, intsD_comp, sh_int, sh_bool, sh_none, sh_str, ev_int, ev_bool, ev_str, ev_none, ev_ni, ev_in, uIfS, evT, ev, uRet, uRetO, uRetN, uDrop, uSet, uSetO, uMove, uFrz, uNext, uBreak, uCont, uApp, uIns, uPut, uPutA, uAug, uRaise, uVar, uC, uOp, uUn, uTru, uTst, uNot, uAnd, uOr, uAndV, uOrV, uNotV, uIf, uNil, uCons, argU, uTup, uLst, allD, onDs, onD, onT, onBool, oI, oIC, oAdd, oEq, oIsN, isN_none, isN_int, isN_bool, isN_str, isN_list, isN_tup, truD, oIx, uSl, uPart, uNoP, oSl, uCB, oLen, oList, oTuple, oInt, oAbs, oAll, oAny, oSum, onB, onI, uIs, uIs2, isT, uCall, uCallP, pick, vw, vw1, okU, okX, nolU, nol, nols, startU, kOf, kQ, kT, onL, uSeqI, uRng1, uRng2, rOk, uEnum, uRep, uTupRev, uYes, ugN, ugT2, wipeU, setU, uIfQ, uRetQ, uSetQ, uPutQ, ixC, szD, List.map_cons, List.map_nil, List.length_cons, List.length_nil, List.replicate, List.cons_append, List.nil_append, List.getElem?_cons_zero, List.getElem?_cons_succ, List.set_cons_zero, List.set_cons_succ, Option.map_some, Option.map_none, List.getD, Option.getD_some, if_true, true_and, and_true, Nat.reduceAdd, Nat.reduceSub, reduceIte, Bool.false_eq_true, Bool.not_true, Bool.not_false]
    exact hL _ (hM acc sp _ rfl (by omega) a1 sp0 sp1)
theorem sc__law_a_counts : FnScope ["_law_many", "_law_row", "_law_wished", "_law_counts", "_law_turn", "_law_r"] ["_law_many", "_law_row", "_law_wished"] (defScope s__law_a_counts) := ⟨rfl, rfl, rfl, by decide +kernel, rfl, by decide +kernel, by decide +kernel⟩
def fn__law_a_counts : Fn := fun as P PX => ∃ (m : Int) (l w : List D), as = [.d (.int m), .d (.tuple l), .d (.tuple w)] ∧ (l.length : Int) = m ∧ (w.length : Int) = m ∧ l.length ≤ 1000 ∧ allI l = true ∧ allN w = true ∧ P (.d (.tuple (agr l w)))
theorem len_if {p : Nat → Bool} (n : Nat) : ((rngD 0 n).flatMap fun d => match d with | .int r => if p r.toNat = true then [(.int r : D)] else [] | _ => []).length = ((List.range n).filter p).length := by
  rw [rngD_flat]
  have : (fun (i : Nat) => (match (PyData.int (i : Int) : D) with | .int r => if p r.toNat = true then [(.int r : D)] else [] | _ => [])) = fun (i : Nat) => if p i = true then [(.int (i : Int) : D)] else [] := by
    funext i
    simp
  rw [this, flat_if, List.length_map]
theorem has__law_a_counts (T : Tk P K mg) : ∃ fd, Has P w K mg base 1 "_law_a_counts" s__law_a_counts ["_law_many", "_law_row", "_law_wished"] fn__law_a_counts fd := by
  obtain ⟨fd, F⟩ := T.f__law_a_counts
  have hb := F.binds (ps := ["_law_many", "_law_row", "_law_wished"]) fun _ _ _ _ _ _ us hl => match us, hl with | [_, _, _], _ => rfl
  refine ⟨fd, T.g__law_a_counts, F.kp, F, hb, fnD F sc__law_a_counts (by decide) fun cdv A outer s H E hr => ⟨_, _, (dss_cons (ds_setO false 3 (de_lst da_nil) sc__law_a_counts.nd)
    (dss_cons (ds_for poD rfl (di_rng1 (dv 0) rfl T.n_range) (dg_name 4 sc__law_a_counts.nd) (dss_one (ds_appk (KK := K) false 3 (de_callB (dc_lenk (KK := K)) rfl T.n_len bt_len (da_cons (de_lc rfl sc__law_a_counts.nd (own := [("_law_r", 5)]) (di_rng1 (dv 0) rfl T.n_range) (blk_of (by kernel_rfl)) (fun _ _ _ _ _ => (dg_name 5 sc__law_a_counts.nd)) (fun _ _ _ _ _ => (dts_one (DW.dt (dw_and (dt_cmp do_notN (de_ixk (KK := K) (dv 2) (dv 5)) de_non) (dw_and1 (dt_cmp (do_eqk (KK := K) hr.units) (de_ixk (KK := K) (dv 1) (de_op do_mod (de_callTy dc_int rfl T.n_int bt_int (da_cons (de_op (do_addk (KK := K)) (dv 5) (dv 4)) da_nil)) (dv 0))) (de_ixk (KK := K) (dv 2) (dv 5)))))))) (fun _ _ _ _ _ => (dv 5))) da_nil)))))
    (dss_one (ds_ret true (de_callTy (dc_tuplek (KK := K)) rfl T.n_tuple bt_tuple (da_cons (dv 3) da_nil)))))), ?_⟩⟩
  rintro as Q PX hl ⟨m, l, w, rfl, hm, hw, hz, al, aw, hp⟩
  refine i_seq fun N hN => ?_
  simp [vw_jk, at_0, at_1, at_2, at_3, at_4, ix_40, ix_41, ix_42, ix_43, boolsD_comp, intsD_comp, sh_int, sh_bool, sh_none, sh_str, ev_int, ev_bool, ev_str, ev_none, ev_ni, ev_in, uIfS, evT, ev, uRet, uRetO, uRetN, uDrop, uSet, uSetO, uMove, uFrz, uNext, uBreak, uCont, uApp, uIns, uPut, uPutA, uAug, uRaise, uVar, uC, uOp, uUn, uTru, uTst, uNot, uAnd, uOr, uAndV, uOrV, uNotV, uIf, uNil, uCons, argU, uTup, uLst, allD, onDs, onD, onT, onBool, oI, oIC, oAdd, oEq, oIsN, isN_none, isN_int, isN_bool, isN_str, isN_list, isN_tup, truD, oIx, uSl, uPart, uNoP, oSl, uCB, oLen, oList, oTuple, oInt, oAbs, oAll, oAny, oSum, onB, onI, uIs, uIs2, isT, uCall, uCallP, pick, vw, vw1, okU, okX, nolU, nol, nols, startU, kOf, kQ, kT, onL, uSeqI, uRng1, uRng2, rOk, uEnum, uRep, uTupRev, uYes, ugN, ugT2, wipeU, setU, uIfQ, uRetQ, uSetQ, uPutQ, ixC, szD, List.map_cons, List.map_nil, List.length_cons, List.length_nil, List.replicate, List.cons_append, List.nil_append, List.getElem?_cons_zero, List.getElem?_cons_succ, List.set_cons_zero, List.set_cons_succ, Option.map_some, Option.map_none, List.getD, Option.getD_some, if_true, true_and, and_true, Nat.reduceAdd, Nat.reduceSub, reduceIte, Bool.false_eq_true, Bool.not_true, Bool.not_false]
  rw [hN]
  refine i_seq fun N2 hN2 => ?_
  refine i_for ?_
  simp [vw_jk, at_0, at_1, at_2, at_3, at_4, ix_40, ix_41, ix_42, ix_43, boolsD_comp, intsD_comp, sh_int, sh_bool, sh_none, sh_str, ev_int, ev_bool, ev_str, ev_none, ev_ni, ev_in, uIfS, evT, ev, uRet, uRetO, uRetN, uDrop, uSet, uSetO, uMove, uFrz, uNext, uBreak, uCont, uApp, uIns, uPut, uPutA, uAug, uRaise, uVar, uC, uOp, uUn, uTru, uTst, uNot, uAnd, uOr, uAndV, uOrV, uNotV, uIf, uNil, uCons, argU, uTup, uLst, allD, onDs, onD, onT, onBool, oI, oIC, oAdd, oEq, oIsN, isN_none, isN_int, isN_bool, isN_str, isN_list, isN_tup, truD, oIx, uSl, uPart, uNoP, oSl, uCB, oLen, oList, oTuple, oInt, oAbs, oAll, oAny, oSum, onB, onI, uIs, uIs2, isT, uCall, uCallP, pick, vw, vw1, okU, okX, nolU, nol, nols, startU, kOf, kQ, kT, onL, uSeqI, uRng1, uRng2, rOk, uEnum, uRep, uTupRev, uYes, ugN, ugT2, wipeU, setU, uIfQ, uRetQ, uSetQ, uPutQ, ixC, szD, List.map_cons, List.map_nil, List.length_cons, List.length_nil, List.replicate, List.cons_append, List.nil_append, List.getElem?_cons_zero, List.getElem?_cons_succ, List.set_cons_zero, List.set_cons_succ, Option.map_some, Option.map_none, List.getD, Option.getD_some, if_true, true_and, and_true, Nat.reduceAdd, Nat.reduceSub, reduceIte, Bool.false_eq_true, Bool.not_true, Bool.not_false]
  have hmn : m.toNat = l.length := by omega
  refine ⟨⟨by omega, by omega⟩, fun i s' => ∃ o, s' = [some (.d (.int m)), some (.d (.tuple l)), some (.d (.tuple w)), some (.own ((List.range i).map fun t => .int (cnt l w t))), o, none], ⟨none, rfl⟩, fun t d s' e hs => ?_, fun s' hs => ?_⟩
  · obtain ⟨o, rfl⟩ := hs
    obtain ⟨rfl, ht⟩ := get_rngD e
    refine i_lc ?_
    simp [vw_jk, at_0, at_1, at_2, at_3, at_4, ix_40, ix_41, ix_42, ix_43, boolsD_comp, intsD_comp, sh_int, sh_bool, sh_none, sh_str, ev_int, ev_bool, ev_str, ev_none, ev_ni, ev_in, uIfS, evT, ev, uRet, uRetO, uRetN, uDrop, uSet, uSetO, uMove, uFrz, uNext, uBreak, uCont, uApp, uIns, uPut, uPutA, uAug, uRaise, uVar, uC, uOp, uUn, uTru, uTst, uNot, uAnd, uOr, uAndV, uOrV, uNotV, uIf, uNil, uCons, argU, uTup, uLst, allD, onDs, onD, onT, onBool, oI, oIC, oAdd, oEq, oIsN, isN_none, isN_int, isN_bool, isN_str, isN_list, isN_tup, truD, oIx, uSl, uPart, uNoP, oSl, uCB, oLen, oList, oTuple, oInt, oAbs, oAll, oAny, oSum, onB, onI, uIs, uIs2, isT, uCall, uCallP, pick, vw, vw1, okU, okX, nolU, nol, nols, startU, kOf, kQ, kT, onL, uSeqI, uRng1, uRng2, rOk, uEnum, uRep, uTupRev, uYes, ugN, ugT2, wipeU, setU, uIfQ, uRetQ, uSetQ, uPutQ, ixC, szD, List.map_cons, List.map_nil, List.length_cons, List.length_nil, List.replicate, List.cons_append, List.nil_append, List.getElem?_cons_zero, List.getElem?_cons_succ, List.set_cons_zero, List.set_cons_succ, Option.map_some, Option.map_none, List.getD, Option.getD_some, if_true, true_and, and_true, Nat.reduceAdd, Nat.reduceSub, reduceIte, Bool.false_eq_true, Bool.not_true, Bool.not_false]
    refine ⟨⟨by omega, by omega⟩, ?_⟩
    refine lc_fun (fun d => match d with | .int r => if hit l w t r.toNat = true then [.int r] else [] | _ => []) (by rw [rngD_len]; exact lt_line (by omega)) (fun i d e => ?_) ?_
    · obtain ⟨rfl, hi⟩ := get_rngD e
      have hi1 : i < w.length := by omega
      have hx := List.getElem?_eq_getElem hi1
      have ha : atI w (i : Int) = some w[i] := atI_nat (n := i) rfl hx
      have hk : ((i : Int) + t) % (l.length : Int) = (((i + t) % l.length : Nat) : Int) := by push_cast; rfl
      have hk2 : (i + t) % l.length < l.length := Nat.mod_lt _ (by omega)
      obtain ⟨a, ha2⟩ := isI_int (all_get al hk2)
      have hg : atI l (((i : Int) + t) % m) = some (.int a) := by
        refine atI_nat (n := (i + t) % l.length) (by rw [← hm]; exact hk) ?_
        rw [List.getElem?_eq_getElem hk2] at ha2 ⊢
        simpa using ha2
      have hok := all_get aw hi1
      rw [hx] at hok
      refine ⟨_, rfl, by simp, fun acc J hJ => ?_⟩
      have hJ2 : J (acc ++ if hit l w t (0 + (i : Int)).toNat = true then [.int (0 + (i : Int))] else []) := hJ
      clear hJ
      have e0 : (0 + (i : Int)).toNat = i := by omega
      rw [e0] at hJ2
      have hh : hit l w t i = (!isN w[i] && PyData.eqv (.int a) w[i]) := by
        unfold hit
        rw [ha2, hx]
        rfl
      rw [hh] at hJ2
      cases hc : w[i] with
      | none =>
        rw [hc] at hJ2 ha
        simp [vw_jk, at_0, at_1, at_2, at_3, at_4, ix_40, ix_41, ix_42, ix_43, boolsD_comp, intsD_comp, sh_int, sh_bool, sh_none, sh_str, ev_int, ev_bool, ev_str, ev_none, ev_ni, ev_in, uIfS, evT, ev, uRet, uRetO, uRetN, uDrop, uSet, uSetO, uMove, uFrz, uNext, uBreak, uCont, uApp, uIns, uPut, uPutA, uAug, uRaise, uVar, uC, uOp, uUn, uTru, uTst, uNot, uAnd, uOr, uAndV, uOrV, uNotV, uIf, uNil, uCons, argU, uTup, uLst, allD, onDs, onD, onT, onBool, oI, oIC, oAdd, oEq, oIsN, isN_none, isN_int, isN_bool, isN_str, isN_list, isN_tup, truD, oIx, uSl, uPart, uNoP, oSl, uCB, oLen, oList, oTuple, oInt, oAbs, oAll, oAny, oSum, onB, onI, uIs, uIs2, isT, uCall, uCallP, pick, vw, vw1, okU, okX, nolU, nol, nols, startU, kOf, kQ, kT, onL, uSeqI, uRng1, uRng2, rOk, uEnum, uRep, uTupRev, uYes, ugN, ugT2, wipeU, setU, uIfQ, uRetQ, uSetQ, uPutQ, ixC, szD, List.map_cons, List.map_nil, List.length_cons, List.length_nil, List.replicate, List.cons_append, List.nil_append, List.getElem?_cons_zero, List.getElem?_cons_succ, List.set_cons_zero, List.set_cons_succ, Option.map_some, Option.map_none, List.getD, Option.getD_some, if_true, true_and, and_true, Nat.reduceAdd, Nat.reduceSub, reduceIte, Bool.false_eq_true, Bool.not_true, Bool.not_false, ha] at hJ2 ⊢
        exact hJ2
      | int b =>
        rw [hc] at hJ2 ha
        have hm0 : 0 < m := by omega
        simp [vw_jk, at_0, at_1, at_2, at_3, at_4, ix_40, ix_41, ix_42, ix_43, boolsD_comp, intsD_comp, sh_int, sh_bool, sh_none, sh_str, ev_int, ev_bool, ev_str, ev_none, ev_ni, ev_in, uIfS, evT, ev, uRet, uRetO, uRetN, uDrop, uSet, uSetO, uMove, uFrz, uNext, uBreak, uCont, uApp, uIns, uPut, uPutA, uAug, uRaise, uVar, uC, uOp, uUn, uTru, uTst, uNot, uAnd, uOr, uAndV, uOrV, uNotV, uIf, uNil, uCons, argU, uTup, uLst, allD, onDs, onD, onT, onBool, oI, oIC, oAdd, oEq, oIsN, isN_none, isN_int, isN_bool, isN_str, isN_list, isN_tup, truD, oIx, uSl, uPart, uNoP, oSl, uCB, oLen, oList, oTuple, oInt, oAbs, oAll, oAny, oSum, onB, onI, uIs, uIs2, isT, uCall, uCallP, pick, vw, vw1, okU, okX, nolU, nol, nols, startU, kOf, kQ, kT, onL, uSeqI, uRng1, uRng2, rOk, uEnum, uRep, uTupRev, uYes, ugN, ugT2, wipeU, setU, uIfQ, uRetQ, uSetQ, uPutQ, ixC, szD, List.map_cons, List.map_nil, List.length_cons, List.length_nil, List.replicate, List.cons_append, List.nil_append, List.getElem?_cons_zero, List.getElem?_cons_succ, List.set_cons_zero, List.set_cons_succ, Option.map_some, Option.map_none, List.getD, Option.getD_some, if_true, true_and, and_true, Nat.reduceAdd, Nat.reduceSub, reduceIte, Bool.false_eq_true, Bool.not_true, Bool.not_false, ha, hg, hm0] at hJ2 ⊢
        by_cases c : a = b
        · simp [c] at hJ2 ⊢; exact hJ2
        · simp [c] at hJ2 ⊢; exact hJ2
      | _ => rw [hc] at hok; cases hok
    · simp only [vw_jk, at_0, at_1, at_2, at_3, at_4, ix_40, ix_41, ix_42, ix_43, boolsD_comp, intsD_comp, sh_int, sh_bool, sh_none, sh_str, ev_int, ev_bool, ev_str, ev_none, ev_ni, ev_in, uIfS, evT, ev, uRet, uRetO, uRetN, uDrop, uSet, uSetO, uMove, uFrz, uNext, uBreak, uCont, uApp, uIns, uPut, uPutA, uAug, uRaise, uVar, uC, uOp, uUn, uTru, uTst, uNot, uAnd, uOr, uAndV, uOrV, uNotV, uIf, uNil, uCons, argU, uTup, uLst, allD, onDs, onD, onT, onBool, oI, oIC, oAdd, oEq, oIsN, isN_none, isN_int, isN_bool, isN_str, isN_list, isN_tup, truD, oIx, uSl, uPart, uNoP, oSl, uCB, oLen, oList, oTuple, oInt, oAbs, oAll, oAny, oSum, onB, onI, uIs, uIs2, isT, uCall, uCallP, pick, vw, vw1, okU, okX, nolU, nol, nols, startU, kOf, kQ, kT, onL, uSeqI, uRng1, uRng2, rOk, uEnum, uRep, uTupRev, uYes, ugN, ugT2, wipeU, setU, uIfQ, uRetQ, uSetQ, uPutQ, ixC, szD, List.map_cons, List.map_nil, List.length_cons, List.length_nil, List.replicate, List.cons_append, List.nil_append, List.getElem?_cons_zero, List.getElem?_cons_succ, List.set_cons_zero, List.set_cons_succ, Option.map_some, Option.map_none, List.getD, Option.getD_some, if_true, true_and, and_true, Nat.reduceAdd, Nat.reduceSub, reduceIte, Bool.false_eq_true, Bool.not_true, Bool.not_false]
      refine ⟨lt_line' (by omega), ?_⟩
      rw [len_if, hmn, List.range_succ, List.map_append]
      rfl
  · obtain ⟨o, rfl⟩ := hs
    rw [hN2]
    simp [vw_jk, at_0, at_1, at_2, at_3, at_4, ix_40, ix_41, ix_42, ix_43, boolsD_comp, intsD_comp, sh_int, sh_bool, sh_none, sh_str, ev_int, ev_bool, ev_str, ev_none, ev_ni, ev_in, uIfS, evT, ev, uRet, uRetO, uRetN, uDrop, uSet, uSetO, uMove, uFrz, uNext, uBreak, uCont, uApp, uIns, uPut, uPutA, uAug, uRaise, uVar, uC, uOp, uUn, uTru, uTst, uNot, uAnd, uOr, uAndV, uOrV, uNotV, uIf, uNil, uCons, argU, uTup, uLst, allD, onDs, onD, onT, onBool, oI, oIC, oAdd, oEq, oIsN, isN_none, isN_int, isN_bool, isN_str, isN_list, isN_tup, truD, oIx, uSl, uPart, uNoP, oSl, uCB, oLen, oList, oTuple, oInt, oAbs, oAll, oAny, oSum, onB, onI, uIs, uIs2, isT, uCall, uCallP, pick, vw, vw1, okU, okX, nolU, nol, nols, startU, kOf, kQ, kT, onL, uSeqI, uRng1, uRng2, rOk, uEnum, uRep, uTupRev, uYes, ugN, ugT2, wipeU, setU, uIfQ, uRetQ, uSetQ, uPutQ, ixC, szD, List.map_cons, List.map_nil, List.length_cons, List.length_nil, List.replicate, List.cons_append, List.nil_append, List.getElem?_cons_zero, List.getElem?_cons_succ, List.set_cons_zero, List.set_cons_succ, Option.map_some, Option.map_none, List.getD, Option.getD_some, if_true, true_and, and_true, Nat.reduceAdd, Nat.reduceSub, reduceIte, Bool.false_eq_true, Bool.not_true, Bool.not_false, rngD_len, hmn]
    exact ⟨nols_map _ (fun _ => rfl) _, hp⟩
theorem sc__law_turned : FnScope ["_law_row", "_law_turn"] ["_law_row", "_law_turn"] (defScope s__law_turned) := ⟨rfl, rfl, rfl, by decide +kernel, rfl, by decide +kernel, by decide +kernel⟩
def rot (l : List D) (k : Nat) : List D := l.drop k ++ l.take k
def fn__law_turned : Fn := fun as P PX => ∃ (l : List D) (k : Nat), as = [.d (.tuple l), .d (.int k)] ∧ k ≤ l.length ∧ l.length ≤ 1000 ∧ P (.d (.tuple (rot l k)))
theorem has__law_turned (T : Tk P K mg) : ∃ fd, Has P w K mg base 1 "_law_turned" s__law_turned ["_law_row", "_law_turn"] fn__law_turned fd := by
  obtain ⟨fd, F⟩ := T.f__law_turned
  have hb := F.binds (ps := ["_law_row", "_law_turn"]) fun _ _ _ _ _ _ us hl => match us, hl with | [_, _], _ => rfl
  refine ⟨fd, T.g__law_turned, F.kp, F, hb, fnD F sc__law_turned (by decide) fun cdv A outer s H E hr => ⟨_, _, (dss_one (ds_ret false (de_op (do_addk (KK := K)) (de_slicek (KK := K) (dv 0) (do_some (dv 1)) do_none) (de_slicek (KK := K) (dv 0) do_none (do_some (dv 1)))))), ?_⟩⟩
  rintro as Q PX hl ⟨l, k, rfl, hk, hz, hp⟩
  have e1 : cutD l (some (k : Int)) none = l.drop k := by
    unfold cutD
    rw [HT.sIx_nat, HT.sIx_none, Nat.min_eq_left hk]
    exact List.take_of_length_le (by simp)
  have e2 : cutD l none (some (k : Int)) = l.take k := by
    unfold cutD
    rw [HT.sIx_nat, HT.sIx_none, Nat.min_eq_left hk]
    simp
  simp [vw_jk, at_0, at_1, at_2, at_3, at_4, ix_40, ix_41, ix_42, ix_43, boolsD_comp, intsD_comp, sh_int, sh_bool, sh_none, sh_str, ev_int, ev_bool, ev_str, ev_none, ev_ni, ev_in, uIfS, evT, ev, uRet, uRetO, uRetN, uDrop, uSet, uSetO, uMove, uFrz, uNext, uBreak, uCont, uApp, uIns, uPut, uPutA, uAug, uRaise, uVar, uC, uOp, uUn, uTru, uTst, uNot, uAnd, uOr, uAndV, uOrV, uNotV, uIf, uNil, uCons, argU, uTup, uLst, allD, onDs, onD, onT, onBool, oI, oIC, oAdd, oEq, oIsN, isN_none, isN_int, isN_bool, isN_str, isN_list, isN_tup, truD, oIx, uSl, uPart, uNoP, oSl, uCB, oLen, oList, oTuple, oInt, oAbs, oAll, oAny, oSum, onB, onI, uIs, uIs2, isT, uCall, uCallP, pick, vw, vw1, okU, okX, nolU, nol, nols, startU, kOf, kQ, kT, onL, uSeqI, uRng1, uRng2, rOk, uEnum, uRep, uTupRev, uYes, ugN, ugT2, wipeU, setU, uIfQ, uRetQ, uSetQ, uPutQ, ixC, szD, List.map_cons, List.map_nil, List.length_cons, List.length_nil, List.replicate, List.cons_append, List.nil_append, List.getElem?_cons_zero, List.getElem?_cons_succ, List.set_cons_zero, List.set_cons_succ, Option.map_some, Option.map_none, List.getD, Option.getD_some, if_true, true_and, and_true, Nat.reduceAdd, Nat.reduceSub, reduceIte, Bool.false_eq_true, Bool.not_true, Bool.not_false, e1, e2]
  exact ⟨lt_line (by omega), hp⟩
theorem sc__law_matches_right : FnScope ["_law_many", "_law_row", "_law_wished", "_law_due", "_law_full", "_law_thing", "_law_t", "_law_back"] ["_law_many", "_law_row", "_law_wished"] (defScope s__law_matches_right) := ⟨rfl, rfl, rfl, by decide +kernel, rfl, by decide +kernel, by decide +kernel⟩
theorem rot_len (l : List D) (k : Nat) : (rot l k).length = l.length := by unfold rot; simp; omega
theorem rot_get {l : List D} {k i : Nat} (hk : k ≤ l.length) (hi : i < l.length) : (rot l k)[i]?.getD .none = l[(i + k) % l.length]?.getD .none := by
  unfold rot
  by_cases h : i < l.length - k
  · rw [List.getElem?_append_left (by simp; omega), List.getElem?_drop, Nat.mod_eq_of_lt (by omega), Nat.add_comm]
  · rw [List.getElem?_append_right (by simp; omega), List.length_drop, List.getElem?_take_of_lt (by omega)]
    have e : (i + k) % l.length = i - (l.length - k) := by
      have : i + k = (i - (l.length - k)) + l.length := by omega
      rw [this, Nat.add_mod_right, Nat.mod_eq_of_lt (by omega)]
    rw [e]
theorem hit_rot {l m : List D} {k t r : Nat} (hk : k ≤ l.length) (h0 : 0 < l.length) : hit (rot l k) m t r = hit l m ((t + k) % l.length) r := by
  unfold hit
  rw [rot_len, rot_get hk (Nat.mod_lt _ h0)]
  have e : ((r + t) % l.length + k) % l.length = (r + (t + k) % l.length) % l.length := by
    rw [Nat.mod_add_mod, Nat.add_mod_mod, Nat.add_assoc]
  rw [e]
theorem cnt_rot {l m : List D} {k t : Nat} (hk : k ≤ l.length) (h0 : 0 < l.length) : cnt (rot l k) m t = cnt l m ((t + k) % l.length) := by
  unfold cnt
  rw [rot_len]
  congr 2
  funext r
  exact hit_rot hk h0
theorem agr_rot {l m : List D} {k : Nat} (hk : k ≤ l.length) : agr (rot l k) m = rot (agr l m) k := by
  refine List.ext_getElem? fun i => ?_
  by_cases hi : i < l.length
  · have h1 : (agr (rot l k) m)[i]? = some (.int (cnt l m ((i + k) % l.length))) := by
      unfold agr
      rw [rot_len, List.getElem?_map, List.getElem?_range hi, Option.map_some, cnt_rot hk (by omega)]
    have h2 := rot_get (l := agr l m) (k := k) (i := i) (by rw [agr_len]; exact hk) (by rw [agr_len]; exact hi)
    rw [agr_len, agr_get (Nat.mod_lt _ (by omega))] at h2
    have h3 : i < (rot (agr l m) k).length := by rw [rot_len, agr_len]; exact hi
    rw [h1, List.getElem?_eq_getElem h3]
    rw [List.getElem?_eq_getElem h3] at h2
    exact congrArg some h2.symm
  · rw [List.getElem?_eq_none (by unfold agr; rw [List.length_map, List.length_range, rot_len]; omega), List.getElem?_eq_none (by rw [rot_len, agr_len]; omega)]
theorem allI_rot {l : List D} {k : Nat} (h : allI l = true) : allI (rot l k) = true := by
  refine List.all_eq_true.mpr fun x hx => ?_
  unfold rot at hx
  rcases List.mem_append.mp hx with z | z
  · exact List.all_eq_true.mp h x (List.mem_of_mem_drop z)
  · exact List.all_eq_true.mp h x (List.mem_of_mem_take z)
theorem plns_map {α : Type} (f : α → D) (h : ∀ a, pln (f a) = true) (l : List α) : plns (l.map f) = true := by
  induction l with
  | nil => rfl
  | cons a l ih => show (pln (f a) && plns (l.map f)) = true; rw [h, ih]; rfl
theorem dps_map {α : Type} (f : α → D) (h : ∀ a, dp (f a) ≤ 1) (l : List α) : dps (l.map f) ≤ 1 := by
  induction l with
  | nil => exact Nat.zero_le _
  | cons a l ih => exact Nat.max_le.mpr ⟨h a, ih⟩
/-- a tuple of ints is what is told to be the same -/
theorem same_ints {α : Type} (f : α → Int) (l : List α) (hz : l.length ≤ 1000) {P : U → Prop} {PX : Ex → Prop} (h : P (.d (.bool true))) : fl__law_same 6 [.d (.tuple (l.map fun a => .int (f a))), .d (.tuple (l.map fun a => .int (f a)))] P PX := by
  refine ⟨_, rfl, ?_, ?_, h⟩
  · have := dps_map (fun a => (.int (f a) : D)) (fun _ => Nat.le_refl _) l
    show 1 + dps _ ≤ 6
    omega
  · show (decide _ && _) = true
    rw [plns_map _ (fun _ => rfl)]
    simp; omega
theorem rot_map {α : Type} (f : α → D) (l : List α) (k : Nat) : rot (l.map f) k = ((l.drop k ++ l.take k)).map f := by
  unfold rot
  rw [List.map_append, List.map_drop, List.map_take]
theorem mat_get {l m : List D} {n : Nat} (hn : (l.length) = n) : ((rngD 0 n).flatMap fun d => match d with | .int t => if cnt l m t.toNat == askN m then [(.int t : D)] else [] | _ => []) = mat l m := by
  rw [rngD_flat]
  have : (fun (i : Nat) => (match (PyData.int (i : Int) : D) with | .int t => if cnt l m t.toNat == askN m then [(.int t : D)] else [] | _ => [])) = fun (i : Nat) => if (cnt l m i == askN m) = true then [(.int (i : Int) : D)] else [] := by
    funext i
    simp
  rw [this, flat_if, ← hn]
  rfl
theorem askN_le (m : List D) : askN m ≤ m.length := List.length_filter_le _ _
theorem agr_call {K : Fr} {m : Int} {l w : List D} {P : U → Prop} {PX : Ex → Prop} (hm : (l.length : Int) = m) (hw : (w.length : Int) = m) (hz : l.length ≤ 1000) (al : allI l = true) (aw : allN w = true) (h : P (.d (.tuple (agr l w)))) : fn_agreements K [.d (.int m), .d (.tuple l), .d (.tuple w)] P PX :=
  ⟨m, _, _, rfl, ⟨(by show l.length ≤ 16777216; omega), (by show w.length ≤ 16777216; omega), fun z => absurd ⟨l, rfl, hm, al⟩ z, fun _ z => absurd ⟨w, rfl, hw, aw⟩ z⟩, fun l' w' e1 e2 _ _ _ _ => by cases e1; cases e2; exact h⟩
theorem mat_call {K : Fr} {m : Int} {l w : List D} {P : U → Prop} {PX : Ex → Prop} (hm : (l.length : Int) = m) (hw : (w.length : Int) = m) (hz : l.length ≤ 1000) (al : allI l = true) (aw : allN w = true) (h : P (.d (.tuple (mat l w)))) : fn_matches K [.d (.int m), .d (.tuple l), .d (.tuple w)] P PX :=
  ⟨m, _, _, rfl, ⟨(by show l.length ≤ 16777216; omega), (by show w.length ≤ 16777216; omega), fun z => absurd ⟨l, rfl, hm, al⟩ z, fun _ z => absurd ⟨w, rfl, hw, aw⟩ z⟩, fun l' w' e1 e2 _ _ _ _ => by cases e1; cases e2; exact h⟩
theorem same_agr {l w : List D} (hz : l.length ≤ 1000) {P : U → Prop} {PX : Ex → Prop} (h : P (.d (.bool true))) : fl__law_same 6 [.d (.tuple (agr l w)), .d (.tuple (agr l w))] P PX := same_ints (fun t => ((cnt l w t : Nat) : Int)) (List.range l.length) (by rw [List.length_range]; exact hz) h
theorem same_mat {l w : List D} (hz : l.length ≤ 1000) {P : U → Prop} {PX : Ex → Prop} (h : P (.d (.bool true))) : fl__law_same 6 [.d (.tuple (mat l w)), .d (.tuple (mat l w))] P PX := same_ints (fun t => ((t : Nat) : Int)) _ (Nat.le_trans (List.length_filter_le _ _) (by rw [List.length_range]; exact hz)) h
def fn__law_matches_right : Fn := fun as P PX => ∃ (m : Int) (l w : List D), as = [.d (.int m), .d (.tuple l), .d (.tuple w)] ∧ (l.length : Int) = m ∧ (w.length : Int) = m ∧ l.length ≤ 1000 ∧ 0 < m ∧ allI l = true ∧ allN w = true ∧ P (.d (.bool true))
theorem has__law_matches_right (T : Tk P K mg) {fd__law_a_counts : FuncData} (h__law_a_counts : Has P w K mg base 1 "_law_a_counts" s__law_a_counts ["_law_many", "_law_row", "_law_wished"] fn__law_a_counts fd__law_a_counts) {fd__law_turned : FuncData} (h__law_turned : Has P w K mg base 1 "_law_turned" s__law_turned ["_law_row", "_law_turn"] fn__law_turned fd__law_turned) {fd__law_same : FuncData} (h__law_same : Has P w K mg base 7 "_law_same" s__law_same ["_law_got", "_law_two"] fn__law_same fd__law_same) {fd_matches : FuncData} (h_matches : Has P w K mg base 5 "matches" s_matches ["wheel", "one", "pattern"] (fn_matches K) fd_matches) {fd_agreements : FuncData} (h_agreements : Has P w K mg base 4 "agreements" s_agreements ["wheel", "one", "pattern"] (fn_agreements K) fd_agreements) : ∃ fd, Has P w K mg base 8 "_law_matches_right" s__law_matches_right ["_law_many", "_law_row", "_law_wished"] fn__law_matches_right fd := by
  obtain ⟨fd, F⟩ := T.f__law_matches_right
  have hb := F.binds (ps := ["_law_many", "_law_row", "_law_wished"]) fun _ _ _ _ _ _ us hl => match us, hl with | [_, _, _], _ => rfl
  refine ⟨fd, T.g__law_matches_right, F.kp, F, hb, fnD F sc__law_matches_right (by decide) fun cdv A outer s H E hr => ⟨_, _, (dss_cons (ds_set false 3 (de_own h__law_a_counts ⟨rfl, rfl, rfl, rfl, rfl⟩ (hr.mono (by decide)) rfl airD (da_cons (dv 0) (da_cons (dv 1) (da_cons (dv 2) da_nil)))) sc__law_matches_right.nd)
    (dss_cons (ds_set false 4 (de_callB (dc_lenk (KK := K)) rfl T.n_len bt_len (da_cons (de_lc rfl sc__law_matches_right.nd (own := [("_law_thing", 5)]) (di_seqk (KK := K) (dv 2)) (blk_of (by kernel_rfl)) (fun _ _ _ _ _ => (dg_name 5 sc__law_matches_right.nd)) (fun _ _ _ _ _ => (dts_one (dt_cmp do_notN (dv 5) de_non))) (fun _ _ _ _ _ => (dv 5))) da_nil)) sc__law_matches_right.nd)
    (dss_cons (ds_if false (dt_not (dt_truk (KK := K) (de_own h__law_same ⟨rfl, rfl, rfl, rfl, rfl⟩ (hr.mono (by decide)) rfl airD (da_cons (de_own h_agreements ⟨rfl, rfl, rfl, rfl, rfl⟩ (hr.mono (by decide)) rfl airD (da_cons (dv 0) (da_cons (dv 1) (da_cons (dv 2) da_nil)))) (da_cons (dv 3) da_nil))))) (dss_one (ds_ret false de_bl)) dss_nil)
    (dss_cons (ds_if false (dt_not (dt_truk (KK := K) (de_own h__law_same ⟨rfl, rfl, rfl, rfl, rfl⟩ (hr.mono (by decide)) rfl airD (da_cons (de_own h_matches ⟨rfl, rfl, rfl, rfl, rfl⟩ (hr.mono (by decide)) rfl airD (da_cons (dv 0) (da_cons (dv 1) (da_cons (dv 2) da_nil)))) (da_cons (de_callTy (dc_tuplek (KK := K)) rfl T.n_tuple bt_tuple (da_cons (de_lc rfl sc__law_matches_right.nd (own := [("_law_t", 6)]) (di_rng1 (dv 0) rfl T.n_range) (blk_of (by kernel_rfl)) (fun _ _ _ _ _ => (dg_name 6 sc__law_matches_right.nd)) (fun _ _ _ _ _ => (dts_one (dt_cmp (do_eqk (KK := K) hr.units) (de_ixk (KK := K) (dv 3) (dv 6)) (dv 4)))) (fun _ _ _ _ _ => (dv 6))) da_nil)) da_nil))))) (dss_one (ds_ret false de_bl)) dss_nil)
    (dss_cons (ds_set false 7 (de_own h__law_turned ⟨rfl, rfl, rfl, rfl, rfl⟩ (hr.mono (by decide)) rfl airD (da_cons (dv 1) (da_cons (de_op do_fdiv (dv 4) de_int) da_nil))) sc__law_matches_right.nd)
    (dss_cons (ds_set false 3 (de_own h__law_turned ⟨rfl, rfl, rfl, rfl, rfl⟩ (hr.mono (by decide)) rfl airD (da_cons (dv 3) (da_cons (de_op do_fdiv (dv 4) de_int) da_nil))) sc__law_matches_right.nd)
    (dss_cons (ds_if false (dt_not (dt_truk (KK := K) (de_own h__law_same ⟨rfl, rfl, rfl, rfl, rfl⟩ (hr.mono (by decide)) rfl airD (da_cons (de_ownK0 h_agreements ⟨rfl, rfl, rfl, rfl, rfl⟩ (hr.mono (by decide)) rfl (kb_agreements_0 h_agreements.fu) airD (dk_cons (dv 2) (dk_cons (dv 7) (dk_cons (dv 0) dk_nil)))) (da_cons (dv 3) da_nil))))) (dss_one (ds_ret false de_bl)) dss_nil)
    (dss_one (ds_ret false (de_own h__law_same ⟨rfl, rfl, rfl, rfl, rfl⟩ (hr.mono (by decide)) rfl airD (da_cons (de_ownK0 h_matches ⟨rfl, rfl, rfl, rfl, rfl⟩ (hr.mono (by decide)) rfl (kb_matches_0 h_matches.fu) airD (dk_cons (dv 7) (dk_cons (dv 0) (dk_cons (dv 2) dk_nil)))) (da_cons (de_callTy (dc_tuplek (KK := K)) rfl T.n_tuple bt_tuple (da_cons (de_lc rfl sc__law_matches_right.nd (own := [("_law_t", 6)]) (di_rng1 (dv 0) rfl T.n_range) (blk_of (by kernel_rfl)) (fun _ _ _ _ _ => (dg_name 6 sc__law_matches_right.nd)) (fun _ _ _ _ _ => (dts_one (dt_cmp (do_eqk (KK := K) hr.units) (de_ixk (KK := K) (dv 3) (dv 6)) (dv 4)))) (fun _ _ _ _ _ => (dv 6))) da_nil)) da_nil)))))))))))), ?_⟩⟩
  rintro as Q PX hl ⟨m, l, w, rfl, hm, hw, hz, h0, al, aw, hp⟩
  refine i_seq fun N hN => ?_
  simp [vw_jk, at_0, at_1, at_2, at_3, at_4, ix_40, ix_41, ix_42, ix_43, boolsD_comp, intsD_comp, sh_int, sh_bool, sh_none, sh_str, ev_int, ev_bool, ev_str, ev_none, ev_ni, ev_in, uIfS, evT, ev, uRet, uRetO, uRetN, uDrop, uSet, uSetO, uMove, uFrz, uNext, uBreak, uCont, uApp, uIns, uPut, uPutA, uAug, uRaise, uVar, uC, uOp, uUn, uTru, uTst, uNot, uAnd, uOr, uAndV, uOrV, uNotV, uIf, uNil, uCons, argU, uTup, uLst, allD, onDs, onD, onT, onBool, oI, oIC, oAdd, oEq, oIsN, isN_none, isN_int, isN_bool, isN_str, isN_list, isN_tup, truD, oIx, uSl, uPart, uNoP, oSl, uCB, oLen, oList, oTuple, oInt, oAbs, oAll, oAny, oSum, onB, onI, uIs, uIs2, isT, uCall, uCallP, pick, vw, vw1, okU, okX, nolU, nol, nols, startU, kOf, kQ, kT, onL, uSeqI, uRng1, uRng2, rOk, uEnum, uRep, uTupRev, uYes, ugN, ugT2, wipeU, setU, uIfQ, uRetQ, uSetQ, uPutQ, ixC, szD, List.map_cons, List.map_nil, List.length_cons, List.length_nil, List.replicate, List.cons_append, List.nil_append, List.getElem?_cons_zero, List.getElem?_cons_succ, List.set_cons_zero, List.set_cons_succ, Option.map_some, Option.map_none, List.getD, Option.getD_some, if_true, true_and, and_true, Nat.reduceAdd, Nat.reduceSub, reduceIte, Bool.false_eq_true, Bool.not_true, Bool.not_false]
  refine ⟨m, l, w, rfl, hm, hw, hz, al, aw, ?_⟩
  simp [vw_jk, at_0, at_1, at_2, at_3, at_4, ix_40, ix_41, ix_42, ix_43, boolsD_comp, intsD_comp, sh_int, sh_bool, sh_none, sh_str, ev_int, ev_bool, ev_str, ev_none, ev_ni, ev_in, uIfS, evT, ev, uRet, uRetO, uRetN, uDrop, uSet, uSetO, uMove, uFrz, uNext, uBreak, uCont, uApp, uIns, uPut, uPutA, uAug, uRaise, uVar, uC, uOp, uUn, uTru, uTst, uNot, uAnd, uOr, uAndV, uOrV, uNotV, uIf, uNil, uCons, argU, uTup, uLst, allD, onDs, onD, onT, onBool, oI, oIC, oAdd, oEq, oIsN, isN_none, isN_int, isN_bool, isN_str, isN_list, isN_tup, truD, oIx, uSl, uPart, uNoP, oSl, uCB, oLen, oList, oTuple, oInt, oAbs, oAll, oAny, oSum, onB, onI, uIs, uIs2, isT, uCall, uCallP, pick, vw, vw1, okU, okX, nolU, nol, nols, startU, kOf, kQ, kT, onL, uSeqI, uRng1, uRng2, rOk, uEnum, uRep, uTupRev, uYes, ugN, ugT2, wipeU, setU, uIfQ, uRetQ, uSetQ, uPutQ, ixC, szD, List.map_cons, List.map_nil, List.length_cons, List.length_nil, List.replicate, List.cons_append, List.nil_append, List.getElem?_cons_zero, List.getElem?_cons_succ, List.set_cons_zero, List.set_cons_succ, Option.map_some, Option.map_none, List.getD, Option.getD_some, if_true, true_and, and_true, Nat.reduceAdd, Nat.reduceSub, reduceIte, Bool.false_eq_true, Bool.not_true, Bool.not_false]
  rw [hN]
  refine i_seq fun N2 hN2 => ?_
  simp [vw_jk, at_0, at_1, at_2, at_3, at_4, ix_40, ix_41, ix_42, ix_43, boolsD_comp, intsD_comp, sh_int, sh_bool, sh_none, sh_str, ev_int, ev_bool, ev_str, ev_none, ev_ni, ev_in, uIfS, evT, ev, uRet, uRetO, uRetN, uDrop, uSet, uSetO, uMove, uFrz, uNext, uBreak, uCont, uApp, uIns, uPut, uPutA, uAug, uRaise, uVar, uC, uOp, uUn, uTru, uTst, uNot, uAnd, uOr, uAndV, uOrV, uNotV, uIf, uNil, uCons, argU, uTup, uLst, allD, onDs, onD, onT, onBool, oI, oIC, oAdd, oEq, oIsN, isN_none, isN_int, isN_bool, isN_str, isN_list, isN_tup, truD, oIx, uSl, uPart, uNoP, oSl, uCB, oLen, oList, oTuple, oInt, oAbs, oAll, oAny, oSum, onB, onI, uIs, uIs2, isT, uCall, uCallP, pick, vw, vw1, okU, okX, nolU, nol, nols, startU, kOf, kQ, kT, onL, uSeqI, uRng1, uRng2, rOk, uEnum, uRep, uTupRev, uYes, ugN, ugT2, wipeU, setU, uIfQ, uRetQ, uSetQ, uPutQ, ixC, szD, List.map_cons, List.map_nil, List.length_cons, List.length_nil, List.replicate, List.cons_append, List.nil_append, List.getElem?_cons_zero, List.getElem?_cons_succ, List.set_cons_zero, List.set_cons_succ, Option.map_some, Option.map_none, List.getD, Option.getD_some, if_true, true_and, and_true, Nat.reduceAdd, Nat.reduceSub, reduceIte, Bool.false_eq_true, Bool.not_true, Bool.not_false]
  have due : ∀ (l' : List D) (o5 o6 o7 : Option U) (R : List D → Prop) , True := fun _ _ _ _ _ => trivial
  refine i_lc ?_
  simp [vw_jk, at_0, at_1, at_2, at_3, at_4, ix_40, ix_41, ix_42, ix_43, boolsD_comp, intsD_comp, sh_int, sh_bool, sh_none, sh_str, ev_int, ev_bool, ev_str, ev_none, ev_ni, ev_in, uIfS, evT, ev, uRet, uRetO, uRetN, uDrop, uSet, uSetO, uMove, uFrz, uNext, uBreak, uCont, uApp, uIns, uPut, uPutA, uAug, uRaise, uVar, uC, uOp, uUn, uTru, uTst, uNot, uAnd, uOr, uAndV, uOrV, uNotV, uIf, uNil, uCons, argU, uTup, uLst, allD, onDs, onD, onT, onBool, oI, oIC, oAdd, oEq, oIsN, isN_none, isN_int, isN_bool, isN_str, isN_list, isN_tup, truD, oIx, uSl, uPart, uNoP, oSl, uCB, oLen, oList, oTuple, oInt, oAbs, oAll, oAny, oSum, onB, onI, uIs, uIs2, isT, uCall, uCallP, pick, vw, vw1, okU, okX, nolU, nol, nols, startU, kOf, kQ, kT, onL, uSeqI, uRng1, uRng2, rOk, uEnum, uRep, uTupRev, uYes, ugN, ugT2, wipeU, setU, uIfQ, uRetQ, uSetQ, uPutQ, ixC, szD, List.map_cons, List.map_nil, List.length_cons, List.length_nil, List.replicate, List.cons_append, List.nil_append, List.getElem?_cons_zero, List.getElem?_cons_succ, List.set_cons_zero, List.set_cons_succ, Option.map_some, Option.map_none, List.getD, Option.getD_some, if_true, true_and, and_true, Nat.reduceAdd, Nat.reduceSub, reduceIte, Bool.false_eq_true, Bool.not_true, Bool.not_false]
  refine lc_fun (fun v => if (!isN v) = true then [v] else []) (lt_line (by omega)) (fun i d e => ⟨_, rfl, by simp, fun acc J hJ => ?_⟩) ?_
  · simp [vw_jk, at_0, at_1, at_2, at_3, at_4, ix_40, ix_41, ix_42, ix_43, boolsD_comp, intsD_comp, sh_int, sh_bool, sh_none, sh_str, ev_int, ev_bool, ev_str, ev_none, ev_ni, ev_in, uIfS, evT, ev, uRet, uRetO, uRetN, uDrop, uSet, uSetO, uMove, uFrz, uNext, uBreak, uCont, uApp, uIns, uPut, uPutA, uAug, uRaise, uVar, uC, uOp, uUn, uTru, uTst, uNot, uAnd, uOr, uAndV, uOrV, uNotV, uIf, uNil, uCons, argU, uTup, uLst, allD, onDs, onD, onT, onBool, oI, oIC, oAdd, oEq, oIsN, isN_none, isN_int, isN_bool, isN_str, isN_list, isN_tup, truD, oIx, uSl, uPart, uNoP, oSl, uCB, oLen, oList, oTuple, oInt, oAbs, oAll, oAny, oSum, onB, onI, uIs, uIs2, isT, uCall, uCallP, pick, vw, vw1, okU, okX, nolU, nol, nols, startU, kOf, kQ, kT, onL, uSeqI, uRng1, uRng2, rOk, uEnum, uRep, uTupRev, uYes, ugN, ugT2, wipeU, setU, uIfQ, uRetQ, uSetQ, uPutQ, ixC, szD, List.map_cons, List.map_nil, List.length_cons, List.length_nil, List.replicate, List.cons_append, List.nil_append, List.getElem?_cons_zero, List.getElem?_cons_succ, List.set_cons_zero, List.set_cons_succ, Option.map_some, Option.map_none, List.getD, Option.getD_some, if_true, true_and, and_true, Nat.reduceAdd, Nat.reduceSub, reduceIte, Bool.false_eq_true, Bool.not_true, Bool.not_false] at hJ ⊢
    by_cases hn : isN d = true
    · simp [hn] at hJ ⊢; exact hJ
    · simp [hn] at hJ ⊢; exact hJ
  have len : (w.flatMap fun v => if (!isN v) = true then [v] else []).length = askN w := by
    rw [flat_if, List.length_map]; rfl
  simp only [vw_jk, at_0, at_1, at_2, at_3, at_4, ix_40, ix_41, ix_42, ix_43, boolsD_comp, intsD_comp, sh_int, sh_bool, sh_none, sh_str, ev_int, ev_bool, ev_str, ev_none, ev_ni, ev_in, uIfS, evT, ev, uRet, uRetO, uRetN, uDrop, uSet, uSetO, uMove, uFrz, uNext, uBreak, uCont, uApp, uIns, uPut, uPutA, uAug, uRaise, uVar, uC, uOp, uUn, uTru, uTst, uNot, uAnd, uOr, uAndV, uOrV, uNotV, uIf, uNil, uCons, argU, uTup, uLst, allD, onDs, onD, onT, onBool, oI, oIC, oAdd, oEq, oIsN, isN_none, isN_int, isN_bool, isN_str, isN_list, isN_tup, truD, oIx, uSl, uPart, uNoP, oSl, uCB, oLen, oList, oTuple, oInt, oAbs, oAll, oAny, oSum, onB, onI, uIs, uIs2, isT, uCall, uCallP, pick, vw, vw1, okU, okX, nolU, nol, nols, startU, kOf, kQ, kT, onL, uSeqI, uRng1, uRng2, rOk, uEnum, uRep, uTupRev, uYes, ugN, ugT2, wipeU, setU, uIfQ, uRetQ, uSetQ, uPutQ, ixC, szD, List.map_cons, List.map_nil, List.length_cons, List.length_nil, List.replicate, List.cons_append, List.nil_append, List.getElem?_cons_zero, List.getElem?_cons_succ, List.set_cons_zero, List.set_cons_succ, Option.map_some, Option.map_none, List.getD, Option.getD_some, if_true, true_and, and_true, Nat.reduceAdd, Nat.reduceSub, reduceIte, Bool.false_eq_true, Bool.not_true, Bool.not_false]
  rw [len, hN2]
  refine i_seq fun N3 hN3 => ?_
  simp [vw_jk, at_0, at_1, at_2, at_3, at_4, ix_40, ix_41, ix_42, ix_43, boolsD_comp, intsD_comp, sh_int, sh_bool, sh_none, sh_str, ev_int, ev_bool, ev_str, ev_none, ev_ni, ev_in, uIfS, evT, ev, uRet, uRetO, uRetN, uDrop, uSet, uSetO, uMove, uFrz, uNext, uBreak, uCont, uApp, uIns, uPut, uPutA, uAug, uRaise, uVar, uC, uOp, uUn, uTru, uTst, uNot, uAnd, uOr, uAndV, uOrV, uNotV, uIf, uNil, uCons, argU, uTup, uLst, allD, onDs, onD, onT, onBool, oI, oIC, oAdd, oEq, oIsN, isN_none, isN_int, isN_bool, isN_str, isN_list, isN_tup, truD, oIx, uSl, uPart, uNoP, oSl, uCB, oLen, oList, oTuple, oInt, oAbs, oAll, oAny, oSum, onB, onI, uIs, uIs2, isT, uCall, uCallP, pick, vw, vw1, okU, okX, nolU, nol, nols, startU, kOf, kQ, kT, onL, uSeqI, uRng1, uRng2, rOk, uEnum, uRep, uTupRev, uYes, ugN, ugT2, wipeU, setU, uIfQ, uRetQ, uSetQ, uPutQ, ixC, szD, List.map_cons, List.map_nil, List.length_cons, List.length_nil, List.replicate, List.cons_append, List.nil_append, List.getElem?_cons_zero, List.getElem?_cons_succ, List.set_cons_zero, List.set_cons_succ, Option.map_some, Option.map_none, List.getD, Option.getD_some, if_true, true_and, and_true, Nat.reduceAdd, Nat.reduceSub, reduceIte, Bool.false_eq_true, Bool.not_true, Bool.not_false]
  refine agr_call hm hw hz al aw ?_
  simp [vw_jk, at_0, at_1, at_2, at_3, at_4, ix_40, ix_41, ix_42, ix_43, boolsD_comp, intsD_comp, sh_int, sh_bool, sh_none, sh_str, ev_int, ev_bool, ev_str, ev_none, ev_ni, ev_in, uIfS, evT, ev, uRet, uRetO, uRetN, uDrop, uSet, uSetO, uMove, uFrz, uNext, uBreak, uCont, uApp, uIns, uPut, uPutA, uAug, uRaise, uVar, uC, uOp, uUn, uTru, uTst, uNot, uAnd, uOr, uAndV, uOrV, uNotV, uIf, uNil, uCons, argU, uTup, uLst, allD, onDs, onD, onT, onBool, oI, oIC, oAdd, oEq, oIsN, isN_none, isN_int, isN_bool, isN_str, isN_list, isN_tup, truD, oIx, uSl, uPart, uNoP, oSl, uCB, oLen, oList, oTuple, oInt, oAbs, oAll, oAny, oSum, onB, onI, uIs, uIs2, isT, uCall, uCallP, pick, vw, vw1, okU, okX, nolU, nol, nols, startU, kOf, kQ, kT, onL, uSeqI, uRng1, uRng2, rOk, uEnum, uRep, uTupRev, uYes, ugN, ugT2, wipeU, setU, uIfQ, uRetQ, uSetQ, uPutQ, ixC, szD, List.map_cons, List.map_nil, List.length_cons, List.length_nil, List.replicate, List.cons_append, List.nil_append, List.getElem?_cons_zero, List.getElem?_cons_succ, List.set_cons_zero, List.set_cons_succ, Option.map_some, Option.map_none, List.getD, Option.getD_some, if_true, true_and, and_true, Nat.reduceAdd, Nat.reduceSub, reduceIte, Bool.false_eq_true, Bool.not_true, Bool.not_false]
  refine same_agr hz ?_
  simp [vw_jk, at_0, at_1, at_2, at_3, at_4, ix_40, ix_41, ix_42, ix_43, boolsD_comp, intsD_comp, sh_int, sh_bool, sh_none, sh_str, ev_int, ev_bool, ev_str, ev_none, ev_ni, ev_in, uIfS, evT, ev, uRet, uRetO, uRetN, uDrop, uSet, uSetO, uMove, uFrz, uNext, uBreak, uCont, uApp, uIns, uPut, uPutA, uAug, uRaise, uVar, uC, uOp, uUn, uTru, uTst, uNot, uAnd, uOr, uAndV, uOrV, uNotV, uIf, uNil, uCons, argU, uTup, uLst, allD, onDs, onD, onT, onBool, oI, oIC, oAdd, oEq, oIsN, isN_none, isN_int, isN_bool, isN_str, isN_list, isN_tup, truD, oIx, uSl, uPart, uNoP, oSl, uCB, oLen, oList, oTuple, oInt, oAbs, oAll, oAny, oSum, onB, onI, uIs, uIs2, isT, uCall, uCallP, pick, vw, vw1, okU, okX, nolU, nol, nols, startU, kOf, kQ, kT, onL, uSeqI, uRng1, uRng2, rOk, uEnum, uRep, uTupRev, uYes, ugN, ugT2, wipeU, setU, uIfQ, uRetQ, uSetQ, uPutQ, ixC, szD, List.map_cons, List.map_nil, List.length_cons, List.length_nil, List.replicate, List.cons_append, List.nil_append, List.getElem?_cons_zero, List.getElem?_cons_succ, List.set_cons_zero, List.set_cons_succ, Option.map_some, Option.map_none, List.getD, Option.getD_some, if_true, true_and, and_true, Nat.reduceAdd, Nat.reduceSub, reduceIte, Bool.false_eq_true, Bool.not_true, Bool.not_false]
  rw [hN3]
  refine i_seq fun N4 hN4 => ?_
  simp [vw_jk, at_0, at_1, at_2, at_3, at_4, ix_40, ix_41, ix_42, ix_43, boolsD_comp, intsD_comp, sh_int, sh_bool, sh_none, sh_str, ev_int, ev_bool, ev_str, ev_none, ev_ni, ev_in, uIfS, evT, ev, uRet, uRetO, uRetN, uDrop, uSet, uSetO, uMove, uFrz, uNext, uBreak, uCont, uApp, uIns, uPut, uPutA, uAug, uRaise, uVar, uC, uOp, uUn, uTru, uTst, uNot, uAnd, uOr, uAndV, uOrV, uNotV, uIf, uNil, uCons, argU, uTup, uLst, allD, onDs, onD, onT, onBool, oI, oIC, oAdd, oEq, oIsN, isN_none, isN_int, isN_bool, isN_str, isN_list, isN_tup, truD, oIx, uSl, uPart, uNoP, oSl, uCB, oLen, oList, oTuple, oInt, oAbs, oAll, oAny, oSum, onB, onI, uIs, uIs2, isT, uCall, uCallP, pick, vw, vw1, okU, okX, nolU, nol, nols, startU, kOf, kQ, kT, onL, uSeqI, uRng1, uRng2, rOk, uEnum, uRep, uTupRev, uYes, ugN, ugT2, wipeU, setU, uIfQ, uRetQ, uSetQ, uPutQ, ixC, szD, List.map_cons, List.map_nil, List.length_cons, List.length_nil, List.replicate, List.cons_append, List.nil_append, List.getElem?_cons_zero, List.getElem?_cons_succ, List.set_cons_zero, List.set_cons_succ, Option.map_some, Option.map_none, List.getD, Option.getD_some, if_true, true_and, and_true, Nat.reduceAdd, Nat.reduceSub, reduceIte, Bool.false_eq_true, Bool.not_true, Bool.not_false]
  refine mat_call hm hw hz al aw ?_
  simp [vw_jk, at_0, at_1, at_2, at_3, at_4, ix_40, ix_41, ix_42, ix_43, boolsD_comp, intsD_comp, sh_int, sh_bool, sh_none, sh_str, ev_int, ev_bool, ev_str, ev_none, ev_ni, ev_in, uIfS, evT, ev, uRet, uRetO, uRetN, uDrop, uSet, uSetO, uMove, uFrz, uNext, uBreak, uCont, uApp, uIns, uPut, uPutA, uAug, uRaise, uVar, uC, uOp, uUn, uTru, uTst, uNot, uAnd, uOr, uAndV, uOrV, uNotV, uIf, uNil, uCons, argU, uTup, uLst, allD, onDs, onD, onT, onBool, oI, oIC, oAdd, oEq, oIsN, isN_none, isN_int, isN_bool, isN_str, isN_list, isN_tup, truD, oIx, uSl, uPart, uNoP, oSl, uCB, oLen, oList, oTuple, oInt, oAbs, oAll, oAny, oSum, onB, onI, uIs, uIs2, isT, uCall, uCallP, pick, vw, vw1, okU, okX, nolU, nol, nols, startU, kOf, kQ, kT, onL, uSeqI, uRng1, uRng2, rOk, uEnum, uRep, uTupRev, uYes, ugN, ugT2, wipeU, setU, uIfQ, uRetQ, uSetQ, uPutQ, ixC, szD, List.map_cons, List.map_nil, List.length_cons, List.length_nil, List.replicate, List.cons_append, List.nil_append, List.getElem?_cons_zero, List.getElem?_cons_succ, List.set_cons_zero, List.set_cons_succ, Option.map_some, Option.map_none, List.getD, Option.getD_some, if_true, true_and, and_true, Nat.reduceAdd, Nat.reduceSub, reduceIte, Bool.false_eq_true, Bool.not_true, Bool.not_false]
  have step : ∀ (l' : List D) (o : Option U) (R : U → Prop), l'.length = l.length → R (.own (mat l' w)) → lcIn (rngD 0 m.toNat) (ugN 6) (uTst (uOp (oEq false) (uOp oIx (uVar 3) (uVar 6)) (uVar 4))) (uVar 6) [6] [some (.d (.int m)), some (.d (.tuple l)), some (.d (.tuple w)), some (.d (.tuple (agr l' w))), some (.d (.int (askN w))), none, none, o] R := fun l' o R e1 hR => by
    have hmn : m.toNat = l'.length := by omega
    rw [hmn]
    refine lc_fun (fun d => match d with | .int t => if cnt l' w t.toNat == askN w then [.int t] else [] | _ => []) (by rw [rngD_len]; exact lt_line (by omega)) (fun i d e => ?_) ?_
    · obtain ⟨rfl, hi⟩ := get_rngD e
      have hx := agr_get (m := w) hi
      have hi2 : i < (agr l' w).length := by rw [agr_len]; exact hi
      rw [List.getElem?_eq_getElem hi2] at hx
      have ha : atI (agr l' w) (i : Int) = some (.int (cnt l' w i)) := atI_nat (n := i) rfl (by rw [List.getElem?_eq_getElem hi2]; exact congrArg some hx)
      refine ⟨_, rfl, by simp, fun acc J hJ => ?_⟩
      simp [vw_jk, at_0, at_1, at_2, at_3, at_4, ix_40, ix_41, ix_42, ix_43, boolsD_comp, intsD_comp, sh_int, sh_bool, sh_none, sh_str, ev_int, ev_bool, ev_str, ev_none, ev_ni, ev_in, uIfS, evT, ev, uRet, uRetO, uRetN, uDrop, uSet, uSetO, uMove, uFrz, uNext, uBreak, uCont, uApp, uIns, uPut, uPutA, uAug, uRaise, uVar, uC, uOp, uUn, uTru, uTst, uNot, uAnd, uOr, uAndV, uOrV, uNotV, uIf, uNil, uCons, argU, uTup, uLst, allD, onDs, onD, onT, onBool, oI, oIC, oAdd, oEq, oIsN, isN_none, isN_int, isN_bool, isN_str, isN_list, isN_tup, truD, oIx, uSl, uPart, uNoP, oSl, uCB, oLen, oList, oTuple, oInt, oAbs, oAll, oAny, oSum, onB, onI, uIs, uIs2, isT, uCall, uCallP, pick, vw, vw1, okU, okX, nolU, nol, nols, startU, kOf, kQ, kT, onL, uSeqI, uRng1, uRng2, rOk, uEnum, uRep, uTupRev, uYes, ugN, ugT2, wipeU, setU, uIfQ, uRetQ, uSetQ, uPutQ, ixC, szD, List.map_cons, List.map_nil, List.length_cons, List.length_nil, List.replicate, List.cons_append, List.nil_append, List.getElem?_cons_zero, List.getElem?_cons_succ, List.set_cons_zero, List.set_cons_succ, Option.map_some, Option.map_none, List.getD, Option.getD_some, if_true, true_and, and_true, Nat.reduceAdd, Nat.reduceSub, reduceIte, Bool.false_eq_true, Bool.not_true, Bool.not_false, ha] at hJ ⊢
      by_cases c : cnt l' w i = askN w
      · simp [c] at hJ ⊢; exact hJ
      · have c2 : ¬ ((cnt l' w i : Int) = askN w) := by omega
        simp [c, c2] at hJ ⊢; exact hJ
    · rw [mat_get rfl]; exact hR
  refine i_lc ?_
  simp [vw_jk, at_0, at_1, at_2, at_3, at_4, ix_40, ix_41, ix_42, ix_43, boolsD_comp, intsD_comp, sh_int, sh_bool, sh_none, sh_str, ev_int, ev_bool, ev_str, ev_none, ev_ni, ev_in, uIfS, evT, ev, uRet, uRetO, uRetN, uDrop, uSet, uSetO, uMove, uFrz, uNext, uBreak, uCont, uApp, uIns, uPut, uPutA, uAug, uRaise, uVar, uC, uOp, uUn, uTru, uTst, uNot, uAnd, uOr, uAndV, uOrV, uNotV, uIf, uNil, uCons, argU, uTup, uLst, allD, onDs, onD, onT, onBool, oI, oIC, oAdd, oEq, oIsN, isN_none, isN_int, isN_bool, isN_str, isN_list, isN_tup, truD, oIx, uSl, uPart, uNoP, oSl, uCB, oLen, oList, oTuple, oInt, oAbs, oAll, oAny, oSum, onB, onI, uIs, uIs2, isT, uCall, uCallP, pick, vw, vw1, okU, okX, nolU, nol, nols, startU, kOf, kQ, kT, onL, uSeqI, uRng1, uRng2, rOk, uEnum, uRep, uTupRev, uYes, ugN, ugT2, wipeU, setU, uIfQ, uRetQ, uSetQ, uPutQ, ixC, szD, List.map_cons, List.map_nil, List.length_cons, List.length_nil, List.replicate, List.cons_append, List.nil_append, List.getElem?_cons_zero, List.getElem?_cons_succ, List.set_cons_zero, List.set_cons_succ, Option.map_some, Option.map_none, List.getD, Option.getD_some, if_true, true_and, and_true, Nat.reduceAdd, Nat.reduceSub, reduceIte, Bool.false_eq_true, Bool.not_true, Bool.not_false]
  refine ⟨⟨by omega, by omega⟩, ?_⟩
  refine step l none _ rfl ?_
  simp only [vw_jk, at_0, at_1, at_2, at_3, at_4, ix_40, ix_41, ix_42, ix_43, boolsD_comp, intsD_comp, sh_int, sh_bool, sh_none, sh_str, ev_int, ev_bool, ev_str, ev_none, ev_ni, ev_in, uIfS, evT, ev, uRet, uRetO, uRetN, uDrop, uSet, uSetO, uMove, uFrz, uNext, uBreak, uCont, uApp, uIns, uPut, uPutA, uAug, uRaise, uVar, uC, uOp, uUn, uTru, uTst, uNot, uAnd, uOr, uAndV, uOrV, uNotV, uIf, uNil, uCons, argU, uTup, uLst, allD, onDs, onD, onT, onBool, oI, oIC, oAdd, oEq, oIsN, isN_none, isN_int, isN_bool, isN_str, isN_list, isN_tup, truD, oIx, uSl, uPart, uNoP, oSl, uCB, oLen, oList, oTuple, oInt, oAbs, oAll, oAny, oSum, onB, onI, uIs, uIs2, isT, uCall, uCallP, pick, vw, vw1, okU, okX, nolU, nol, nols, startU, kOf, kQ, kT, onL, uSeqI, uRng1, uRng2, rOk, uEnum, uRep, uTupRev, uYes, ugN, ugT2, wipeU, setU, uIfQ, uRetQ, uSetQ, uPutQ, ixC, szD, List.map_cons, List.map_nil, List.length_cons, List.length_nil, List.replicate, List.cons_append, List.nil_append, List.getElem?_cons_zero, List.getElem?_cons_succ, List.set_cons_zero, List.set_cons_succ, Option.map_some, Option.map_none, List.getD, Option.getD_some, if_true, true_and, and_true, Nat.reduceAdd, Nat.reduceSub, reduceIte, Bool.false_eq_true, Bool.not_true, Bool.not_false]
  refine same_mat hz ?_
  simp [vw_jk, at_0, at_1, at_2, at_3, at_4, ix_40, ix_41, ix_42, ix_43, boolsD_comp, intsD_comp, sh_int, sh_bool, sh_none, sh_str, ev_int, ev_bool, ev_str, ev_none, ev_ni, ev_in, uIfS, evT, ev, uRet, uRetO, uRetN, uDrop, uSet, uSetO, uMove, uFrz, uNext, uBreak, uCont, uApp, uIns, uPut, uPutA, uAug, uRaise, uVar, uC, uOp, uUn, uTru, uTst, uNot, uAnd, uOr, uAndV, uOrV, uNotV, uIf, uNil, uCons, argU, uTup, uLst, allD, onDs, onD, onT, onBool, oI, oIC, oAdd, oEq, oIsN, isN_none, isN_int, isN_bool, isN_str, isN_list, isN_tup, truD, oIx, uSl, uPart, uNoP, oSl, uCB, oLen, oList, oTuple, oInt, oAbs, oAll, oAny, oSum, onB, onI, uIs, uIs2, isT, uCall, uCallP, pick, vw, vw1, okU, okX, nolU, nol, nols, startU, kOf, kQ, kT, onL, uSeqI, uRng1, uRng2, rOk, uEnum, uRep, uTupRev, uYes, ugN, ugT2, wipeU, setU, uIfQ, uRetQ, uSetQ, uPutQ, ixC, szD, List.map_cons, List.map_nil, List.length_cons, List.length_nil, List.replicate, List.cons_append, List.nil_append, List.getElem?_cons_zero, List.getElem?_cons_succ, List.set_cons_zero, List.set_cons_succ, Option.map_some, Option.map_none, List.getD, Option.getD_some, if_true, true_and, and_true, Nat.reduceAdd, Nat.reduceSub, reduceIte, Bool.false_eq_true, Bool.not_true, Bool.not_false]
  rw [hN4]
  have hk : askN w / 2 ≤ l.length := by have := askN_le w; omega
  have ek : ((askN w : Nat) : Int) / 2 = ((askN w / 2 : Nat) : Int) := by push_cast; rfl
  refine i_seq fun N5 hN5 => ?_
  simp [vw_jk, at_0, at_1, at_2, at_3, at_4, ix_40, ix_41, ix_42, ix_43, boolsD_comp, intsD_comp, sh_int, sh_bool, sh_none, sh_str, ev_int, ev_bool, ev_str, ev_none, ev_ni, ev_in, uIfS, evT, ev, uRet, uRetO, uRetN, uDrop, uSet, uSetO, uMove, uFrz, uNext, uBreak, uCont, uApp, uIns, uPut, uPutA, uAug, uRaise, uVar, uC, uOp, uUn, uTru, uTst, uNot, uAnd, uOr, uAndV, uOrV, uNotV, uIf, uNil, uCons, argU, uTup, uLst, allD, onDs, onD, onT, onBool, oI, oIC, oAdd, oEq, oIsN, isN_none, isN_int, isN_bool, isN_str, isN_list, isN_tup, truD, oIx, uSl, uPart, uNoP, oSl, uCB, oLen, oList, oTuple, oInt, oAbs, oAll, oAny, oSum, onB, onI, uIs, uIs2, isT, uCall, uCallP, pick, vw, vw1, okU, okX, nolU, nol, nols, startU, kOf, kQ, kT, onL, uSeqI, uRng1, uRng2, rOk, uEnum, uRep, uTupRev, uYes, ugN, ugT2, wipeU, setU, uIfQ, uRetQ, uSetQ, uPutQ, ixC, szD, List.map_cons, List.map_nil, List.length_cons, List.length_nil, List.replicate, List.cons_append, List.nil_append, List.getElem?_cons_zero, List.getElem?_cons_succ, List.set_cons_zero, List.set_cons_succ, Option.map_some, Option.map_none, List.getD, Option.getD_some, if_true, true_and, and_true, Nat.reduceAdd, Nat.reduceSub, reduceIte, Bool.false_eq_true, Bool.not_true, Bool.not_false]
  refine ⟨divS (by decide) (by decide), l, askN w / 2, by rw [ek], hk, hz, ?_⟩
  simp [vw_jk, at_0, at_1, at_2, at_3, at_4, ix_40, ix_41, ix_42, ix_43, boolsD_comp, intsD_comp, sh_int, sh_bool, sh_none, sh_str, ev_int, ev_bool, ev_str, ev_none, ev_ni, ev_in, uIfS, evT, ev, uRet, uRetO, uRetN, uDrop, uSet, uSetO, uMove, uFrz, uNext, uBreak, uCont, uApp, uIns, uPut, uPutA, uAug, uRaise, uVar, uC, uOp, uUn, uTru, uTst, uNot, uAnd, uOr, uAndV, uOrV, uNotV, uIf, uNil, uCons, argU, uTup, uLst, allD, onDs, onD, onT, onBool, oI, oIC, oAdd, oEq, oIsN, isN_none, isN_int, isN_bool, isN_str, isN_list, isN_tup, truD, oIx, uSl, uPart, uNoP, oSl, uCB, oLen, oList, oTuple, oInt, oAbs, oAll, oAny, oSum, onB, onI, uIs, uIs2, isT, uCall, uCallP, pick, vw, vw1, okU, okX, nolU, nol, nols, startU, kOf, kQ, kT, onL, uSeqI, uRng1, uRng2, rOk, uEnum, uRep, uTupRev, uYes, ugN, ugT2, wipeU, setU, uIfQ, uRetQ, uSetQ, uPutQ, ixC, szD, List.map_cons, List.map_nil, List.length_cons, List.length_nil, List.replicate, List.cons_append, List.nil_append, List.getElem?_cons_zero, List.getElem?_cons_succ, List.set_cons_zero, List.set_cons_succ, Option.map_some, Option.map_none, List.getD, Option.getD_some, if_true, true_and, and_true, Nat.reduceAdd, Nat.reduceSub, reduceIte, Bool.false_eq_true, Bool.not_true, Bool.not_false]
  rw [hN5]
  refine i_seq fun N6 hN6 => ?_
  simp [vw_jk, at_0, at_1, at_2, at_3, at_4, ix_40, ix_41, ix_42, ix_43, boolsD_comp, intsD_comp, sh_int, sh_bool, sh_none, sh_str, ev_int, ev_bool, ev_str, ev_none, ev_ni, ev_in, uIfS, evT, ev, uRet, uRetO, uRetN, uDrop, uSet, uSetO, uMove, uFrz, uNext, uBreak, uCont, uApp, uIns, uPut, uPutA, uAug, uRaise, uVar, uC, uOp, uUn, uTru, uTst, uNot, uAnd, uOr, uAndV, uOrV, uNotV, uIf, uNil, uCons, argU, uTup, uLst, allD, onDs, onD, onT, onBool, oI, oIC, oAdd, oEq, oIsN, isN_none, isN_int, isN_bool, isN_str, isN_list, isN_tup, truD, oIx, uSl, uPart, uNoP, oSl, uCB, oLen, oList, oTuple, oInt, oAbs, oAll, oAny, oSum, onB, onI, uIs, uIs2, isT, uCall, uCallP, pick, vw, vw1, okU, okX, nolU, nol, nols, startU, kOf, kQ, kT, onL, uSeqI, uRng1, uRng2, rOk, uEnum, uRep, uTupRev, uYes, ugN, ugT2, wipeU, setU, uIfQ, uRetQ, uSetQ, uPutQ, ixC, szD, List.map_cons, List.map_nil, List.length_cons, List.length_nil, List.replicate, List.cons_append, List.nil_append, List.getElem?_cons_zero, List.getElem?_cons_succ, List.set_cons_zero, List.set_cons_succ, Option.map_some, Option.map_none, List.getD, Option.getD_some, if_true, true_and, and_true, Nat.reduceAdd, Nat.reduceSub, reduceIte, Bool.false_eq_true, Bool.not_true, Bool.not_false]
  refine ⟨divS (by decide) (by decide), agr l w, askN w / 2, by rw [ek], by rw [agr_len]; exact hk, by rw [agr_len]; exact hz, ?_⟩
  rw [← agr_rot hk]
  simp [vw_jk, at_0, at_1, at_2, at_3, at_4, ix_40, ix_41, ix_42, ix_43, boolsD_comp, intsD_comp, sh_int, sh_bool, sh_none, sh_str, ev_int, ev_bool, ev_str, ev_none, ev_ni, ev_in, uIfS, evT, ev, uRet, uRetO, uRetN, uDrop, uSet, uSetO, uMove, uFrz, uNext, uBreak, uCont, uApp, uIns, uPut, uPutA, uAug, uRaise, uVar, uC, uOp, uUn, uTru, uTst, uNot, uAnd, uOr, uAndV, uOrV, uNotV, uIf, uNil, uCons, argU, uTup, uLst, allD, onDs, onD, onT, onBool, oI, oIC, oAdd, oEq, oIsN, isN_none, isN_int, isN_bool, isN_str, isN_list, isN_tup, truD, oIx, uSl, uPart, uNoP, oSl, uCB, oLen, oList, oTuple, oInt, oAbs, oAll, oAny, oSum, onB, onI, uIs, uIs2, isT, uCall, uCallP, pick, vw, vw1, okU, okX, nolU, nol, nols, startU, kOf, kQ, kT, onL, uSeqI, uRng1, uRng2, rOk, uEnum, uRep, uTupRev, uYes, ugN, ugT2, wipeU, setU, uIfQ, uRetQ, uSetQ, uPutQ, ixC, szD, List.map_cons, List.map_nil, List.length_cons, List.length_nil, List.replicate, List.cons_append, List.nil_append, List.getElem?_cons_zero, List.getElem?_cons_succ, List.set_cons_zero, List.set_cons_succ, Option.map_some, Option.map_none, List.getD, Option.getD_some, if_true, true_and, and_true, Nat.reduceAdd, Nat.reduceSub, reduceIte, Bool.false_eq_true, Bool.not_true, Bool.not_false]
  rw [hN6]
  have lr := rot_len l (askN w / 2)
  refine i_seq fun N7 hN7 => ?_
  simp [vw_jk, at_0, at_1, at_2, at_3, at_4, ix_40, ix_41, ix_42, ix_43, boolsD_comp, intsD_comp, sh_int, sh_bool, sh_none, sh_str, ev_int, ev_bool, ev_str, ev_none, ev_ni, ev_in, uIfS, evT, ev, uRet, uRetO, uRetN, uDrop, uSet, uSetO, uMove, uFrz, uNext, uBreak, uCont, uApp, uIns, uPut, uPutA, uAug, uRaise, uVar, uC, uOp, uUn, uTru, uTst, uNot, uAnd, uOr, uAndV, uOrV, uNotV, uIf, uNil, uCons, argU, uTup, uLst, allD, onDs, onD, onT, onBool, oI, oIC, oAdd, oEq, oIsN, isN_none, isN_int, isN_bool, isN_str, isN_list, isN_tup, truD, oIx, uSl, uPart, uNoP, oSl, uCB, oLen, oList, oTuple, oInt, oAbs, oAll, oAny, oSum, onB, onI, uIs, uIs2, isT, uCall, uCallP, pick, vw, vw1, okU, okX, nolU, nol, nols, startU, kOf, kQ, kT, onL, uSeqI, uRng1, uRng2, rOk, uEnum, uRep, uTupRev, uYes, ugN, ugT2, wipeU, setU, uIfQ, uRetQ, uSetQ, uPutQ, ixC, szD, List.map_cons, List.map_nil, List.length_cons, List.length_nil, List.replicate, List.cons_append, List.nil_append, List.getElem?_cons_zero, List.getElem?_cons_succ, List.set_cons_zero, List.set_cons_succ, Option.map_some, Option.map_none, List.getD, Option.getD_some, if_true, true_and, and_true, Nat.reduceAdd, Nat.reduceSub, reduceIte, Bool.false_eq_true, Bool.not_true, Bool.not_false]
  refine agr_call (by rw [lr]; exact hm) hw (by omega) (allI_rot al) aw ?_
  simp [vw_jk, at_0, at_1, at_2, at_3, at_4, ix_40, ix_41, ix_42, ix_43, boolsD_comp, intsD_comp, sh_int, sh_bool, sh_none, sh_str, ev_int, ev_bool, ev_str, ev_none, ev_ni, ev_in, uIfS, evT, ev, uRet, uRetO, uRetN, uDrop, uSet, uSetO, uMove, uFrz, uNext, uBreak, uCont, uApp, uIns, uPut, uPutA, uAug, uRaise, uVar, uC, uOp, uUn, uTru, uTst, uNot, uAnd, uOr, uAndV, uOrV, uNotV, uIf, uNil, uCons, argU, uTup, uLst, allD, onDs, onD, onT, onBool, oI, oIC, oAdd, oEq, oIsN, isN_none, isN_int, isN_bool, isN_str, isN_list, isN_tup, truD, oIx, uSl, uPart, uNoP, oSl, uCB, oLen, oList, oTuple, oInt, oAbs, oAll, oAny, oSum, onB, onI, uIs, uIs2, isT, uCall, uCallP, pick, vw, vw1, okU, okX, nolU, nol, nols, startU, kOf, kQ, kT, onL, uSeqI, uRng1, uRng2, rOk, uEnum, uRep, uTupRev, uYes, ugN, ugT2, wipeU, setU, uIfQ, uRetQ, uSetQ, uPutQ, ixC, szD, List.map_cons, List.map_nil, List.length_cons, List.length_nil, List.replicate, List.cons_append, List.nil_append, List.getElem?_cons_zero, List.getElem?_cons_succ, List.set_cons_zero, List.set_cons_succ, Option.map_some, Option.map_none, List.getD, Option.getD_some, if_true, true_and, and_true, Nat.reduceAdd, Nat.reduceSub, reduceIte, Bool.false_eq_true, Bool.not_true, Bool.not_false]
  refine same_agr (by omega) ?_
  simp [vw_jk, at_0, at_1, at_2, at_3, at_4, ix_40, ix_41, ix_42, ix_43, boolsD_comp, intsD_comp, sh_int, sh_bool, sh_none, sh_str, ev_int, ev_bool, ev_str, ev_none, ev_ni, ev_in, uIfS, evT, ev, uRet, uRetO, uRetN, uDrop, uSet, uSetO, uMove, uFrz, uNext, uBreak, uCont, uApp, uIns, uPut, uPutA, uAug, uRaise, uVar, uC, uOp, uUn, uTru, uTst, uNot, uAnd, uOr, uAndV, uOrV, uNotV, uIf, uNil, uCons, argU, uTup, uLst, allD, onDs, onD, onT, onBool, oI, oIC, oAdd, oEq, oIsN, isN_none, isN_int, isN_bool, isN_str, isN_list, isN_tup, truD, oIx, uSl, uPart, uNoP, oSl, uCB, oLen, oList, oTuple, oInt, oAbs, oAll, oAny, oSum, onB, onI, uIs, uIs2, isT, uCall, uCallP, pick, vw, vw1, okU, okX, nolU, nol, nols, startU, kOf, kQ, kT, onL, uSeqI, uRng1, uRng2, rOk, uEnum, uRep, uTupRev, uYes, ugN, ugT2, wipeU, setU, uIfQ, uRetQ, uSetQ, uPutQ, ixC, szD, List.map_cons, List.map_nil, List.length_cons, List.length_nil, List.replicate, List.cons_append, List.nil_append, List.getElem?_cons_zero, List.getElem?_cons_succ, List.set_cons_zero, List.set_cons_succ, Option.map_some, Option.map_none, List.getD, Option.getD_some, if_true, true_and, and_true, Nat.reduceAdd, Nat.reduceSub, reduceIte, Bool.false_eq_true, Bool.not_true, Bool.not_false]
  rw [hN7]
  simp [vw_jk, at_0, at_1, at_2, at_3, at_4, ix_40, ix_41, ix_42, ix_43, boolsD_comp, intsD_comp, sh_int, sh_bool, sh_none, sh_str, ev_int, ev_bool, ev_str, ev_none, ev_ni, ev_in, uIfS, evT, ev, uRet, uRetO, uRetN, uDrop, uSet, uSetO, uMove, uFrz, uNext, uBreak, uCont, uApp, uIns, uPut, uPutA, uAug, uRaise, uVar, uC, uOp, uUn, uTru, uTst, uNot, uAnd, uOr, uAndV, uOrV, uNotV, uIf, uNil, uCons, argU, uTup, uLst, allD, onDs, onD, onT, onBool, oI, oIC, oAdd, oEq, oIsN, isN_none, isN_int, isN_bool, isN_str, isN_list, isN_tup, truD, oIx, uSl, uPart, uNoP, oSl, uCB, oLen, oList, oTuple, oInt, oAbs, oAll, oAny, oSum, onB, onI, uIs, uIs2, isT, uCall, uCallP, pick, vw, vw1, okU, okX, nolU, nol, nols, startU, kOf, kQ, kT, onL, uSeqI, uRng1, uRng2, rOk, uEnum, uRep, uTupRev, uYes, ugN, ugT2, wipeU, setU, uIfQ, uRetQ, uSetQ, uPutQ, ixC, szD, List.map_cons, List.map_nil, List.length_cons, List.length_nil, List.replicate, List.cons_append, List.nil_append, List.getElem?_cons_zero, List.getElem?_cons_succ, List.set_cons_zero, List.set_cons_succ, Option.map_some, Option.map_none, List.getD, Option.getD_some, if_true, true_and, and_true, Nat.reduceAdd, Nat.reduceSub, reduceIte, Bool.false_eq_true, Bool.not_true, Bool.not_false]
  refine mat_call (by rw [lr]; exact hm) hw (by omega) (allI_rot al) aw ?_
  simp [vw_jk, at_0, at_1, at_2, at_3, at_4, ix_40, ix_41, ix_42, ix_43, boolsD_comp, intsD_comp, sh_int, sh_bool, sh_none, sh_str, ev_int, ev_bool, ev_str, ev_none, ev_ni, ev_in, uIfS, evT, ev, uRet, uRetO, uRetN, uDrop, uSet, uSetO, uMove, uFrz, uNext, uBreak, uCont, uApp, uIns, uPut, uPutA, uAug, uRaise, uVar, uC, uOp, uUn, uTru, uTst, uNot, uAnd, uOr, uAndV, uOrV, uNotV, uIf, uNil, uCons, argU, uTup, uLst, allD, onDs, onD, onT, onBool, oI, oIC, oAdd, oEq, oIsN, isN_none, isN_int, isN_bool, isN_str, isN_list, isN_tup, truD, oIx, uSl, uPart, uNoP, oSl, uCB, oLen, oList, oTuple, oInt, oAbs, oAll, oAny, oSum, onB, onI, uIs, uIs2, isT, uCall, uCallP, pick, vw, vw1, okU, okX, nolU, nol, nols, startU, kOf, kQ, kT, onL, uSeqI, uRng1, uRng2, rOk, uEnum, uRep, uTupRev, uYes, ugN, ugT2, wipeU, setU, uIfQ, uRetQ, uSetQ, uPutQ, ixC, szD, List.map_cons, List.map_nil, List.length_cons, List.length_nil, List.replicate, List.cons_append, List.nil_append, List.getElem?_cons_zero, List.getElem?_cons_succ, List.set_cons_zero, List.set_cons_succ, Option.map_some, Option.map_none, List.getD, Option.getD_some, if_true, true_and, and_true, Nat.reduceAdd, Nat.reduceSub, reduceIte, Bool.false_eq_true, Bool.not_true, Bool.not_false]
  refine i_lc ?_
  simp [vw_jk, at_0, at_1, at_2, at_3, at_4, ix_40, ix_41, ix_42, ix_43, boolsD_comp, intsD_comp, sh_int, sh_bool, sh_none, sh_str, ev_int, ev_bool, ev_str, ev_none, ev_ni, ev_in, uIfS, evT, ev, uRet, uRetO, uRetN, uDrop, uSet, uSetO, uMove, uFrz, uNext, uBreak, uCont, uApp, uIns, uPut, uPutA, uAug, uRaise, uVar, uC, uOp, uUn, uTru, uTst, uNot, uAnd, uOr, uAndV, uOrV, uNotV, uIf, uNil, uCons, argU, uTup, uLst, allD, onDs, onD, onT, onBool, oI, oIC, oAdd, oEq, oIsN, isN_none, isN_int, isN_bool, isN_str, isN_list, isN_tup, truD, oIx, uSl, uPart, uNoP, oSl, uCB, oLen, oList, oTuple, oInt, oAbs, oAll, oAny, oSum, onB, onI, uIs, uIs2, isT, uCall, uCallP, pick, vw, vw1, okU, okX, nolU, nol, nols, startU, kOf, kQ, kT, onL, uSeqI, uRng1, uRng2, rOk, uEnum, uRep, uTupRev, uYes, ugN, ugT2, wipeU, setU, uIfQ, uRetQ, uSetQ, uPutQ, ixC, szD, List.map_cons, List.map_nil, List.length_cons, List.length_nil, List.replicate, List.cons_append, List.nil_append, List.getElem?_cons_zero, List.getElem?_cons_succ, List.set_cons_zero, List.set_cons_succ, Option.map_some, Option.map_none, List.getD, Option.getD_some, if_true, true_and, and_true, Nat.reduceAdd, Nat.reduceSub, reduceIte, Bool.false_eq_true, Bool.not_true, Bool.not_false]
  refine ⟨⟨by omega, by omega⟩, ?_⟩
  refine step _ _ _ lr ?_
  simp only [vw_jk, at_0, at_1, at_2, at_3, at_4, ix_40, ix_41, ix_42, ix_43, boolsD_comp, intsD_comp, sh_int, sh_bool, sh_none, sh_str, ev_int, ev_bool, ev_str, ev_none, ev_ni, ev_in, uIfS, evT, ev, uRet, uRetO, uRetN, uDrop, uSet, uSetO, uMove, uFrz, uNext, uBreak, uCont, uApp, uIns, uPut, uPutA, uAug, uRaise, uVar, uC, uOp, uUn, uTru, uTst, uNot, uAnd, uOr, uAndV, uOrV, uNotV, uIf, uNil, uCons, argU, uTup, uLst, allD, onDs, onD, onT, onBool, oI, oIC, oAdd, oEq, oIsN, isN_none, isN_int, isN_bool, isN_str, isN_list, isN_tup, truD, oIx, uSl, uPart, uNoP, oSl, uCB, oLen, oList, oTuple, oInt, oAbs, oAll, oAny, oSum, onB, onI, uIs, uIs2, isT, uCall, uCallP, pick, vw, vw1, okU, okX, nolU, nol, nols, startU, kOf, kQ, kT, onL, uSeqI, uRng1, uRng2, rOk, uEnum, uRep, uTupRev, uYes, ugN, ugT2, wipeU, setU, uIfQ, uRetQ, uSetQ, uPutQ, ixC, szD, List.map_cons, List.map_nil, List.length_cons, List.length_nil, List.replicate, List.cons_append, List.nil_append, List.getElem?_cons_zero, List.getElem?_cons_succ, List.set_cons_zero, List.set_cons_succ, Option.map_some, Option.map_none, List.getD, Option.getD_some, if_true, true_and, and_true, Nat.reduceAdd, Nat.reduceSub, reduceIte, Bool.false_eq_true, Bool.not_true, Bool.not_false]
  refine same_mat (by omega) ?_
  first | exact hp | exact ⟨trivial, hp⟩ | (simp [vw_jk, at_0, at_1, at_2, at_3, at_4, ix_40, ix_41, ix_42, ix_43, boolsD_comp, intsD_comp, sh_int, sh_bool, sh_none, sh_str, ev_int, ev_bool, ev_str, ev_none, ev_ni, ev_in, uIfS, evT, ev, uRet, uRetO, uRetN, uDrop, uSet, uSetO, uMove, uFrz, uNext, uBreak, uCont, uApp, uIns, uPut, uPutA, uAug, uRaise, uVar, uC, uOp, uUn, uTru, uTst, uNot, uAnd, uOr, uAndV, uOrV, uNotV, uIf, uNil, uCons, argU, uTup, uLst, allD, onDs, onD, onT, onBool, oI, oIC, oAdd, oEq, oIsN, isN_none, isN_int, isN_bool, isN_str, isN_list, isN_tup, truD, oIx, uSl, uPart, uNoP, oSl, uCB, oLen, oList, oTuple, oInt, oAbs, oAll, oAny, oSum, onB, onI, uIs, uIs2, isT, uCall, uCallP, pick, vw, vw1, okU, okX, nolU, nol, nols, startU, kOf, kQ, kT, onL, uSeqI, uRng1, uRng2, rOk, uEnum, uRep, uTupRev, uYes, ugN, ugT2, wipeU, setU, uIfQ, uRetQ, uSetQ, uPutQ, ixC, szD, List.map_cons, List.map_nil, List.length_cons, List.length_nil, List.replicate, List.cons_append, List.nil_append, List.getElem?_cons_zero, List.getElem?_cons_succ, List.set_cons_zero, List.set_cons_succ, Option.map_some, Option.map_none, List.getD, Option.getD_some, if_true, true_and, and_true, Nat.reduceAdd, Nat.reduceSub, reduceIte, Bool.false_eq_true, Bool.not_true, Bool.not_false]; exact hp)
theorem sc__law_listed : FnScope ["_law_many", "_law_spots", "_law_laps", "_law_sums", "_law_k", "_law_more", "_law_total", "_law_spot", "_law_counts"] ["_law_many", "_law_spots", "_law_laps"] (defScope s__law_listed) := ⟨rfl, rfl, rfl, by decide +kernel, rfl, by decide +kernel, by decide +kernel⟩
def natL (l : List Nat) : List D := l.map fun (x : Nat) => .int x
theorem natL_len (l : List Nat) : (natL l).length = l.length := by unfold natL; simp
theorem natL_app (l m : List Nat) : natL (l ++ m) = natL l ++ natL m := by unfold natL; simp
theorem natL_get {l : List Nat} {i : Nat} {d : D} (h : (natL l)[i]? = some d) : ∃ x : Nat, d = .int x ∧ l[i]? = some x := by
  unfold natL at h
  rw [List.getElem?_map] at h
  obtain ⟨x, h1, rfl⟩ := Option.map_eq_some_iff.mp h
  exact ⟨x, rfl, h1⟩
theorem pls_len (a b : List Nat) : (pls a b).length = a.length * b.length := by
  unfold pls
  induction a with
  | nil => simp
  | cons x a ih => rw [List.flatMap_cons, List.length_append, ih, List.length_map, List.length_cons, Nat.add_mul]; omega
theorem pw_len (fs : List Nat) : ∀ t, (pw fs t).length = fs.length ^ t
  | 0 => rfl
  | t + 1 => by
    show (pls (pw fs t) fs).length = _
    rw [pls_len, pw_len fs t, Nat.pow_succ]
theorem take_flat {α β : Type} {l : List α} {i : Nat} {x : α} (g : α → List β) (h : l[i]? = some x) : (l.take (i + 1)).flatMap g = (l.take i).flatMap g ++ g x := by
  rw [List.take_succ, h, List.flatMap_append]
  simp
theorem flat_len_le {l : List Nat} {fs : List Nat} (i : Nat) : ((l.take i).flatMap fun x => fs.map (x + ·)).length ≤ l.length * fs.length := by
  have h := pls_len (l.take i) fs
  unfold pls at h
  rw [h]
  exact Nat.mul_le_mul_right _ (by rw [List.length_take]; omega)
def seqD (x : D) (l : List D) : Prop := x = .list l ∨ x = .tuple l
def fn__law_listed : Fn := fun as P PX => ∃ (n : Nat) (sp : D) (fs : List Nat) (t : Nat), as = [.d (.int n), .d sp, .d (.int t)] ∧ seqD sp (natL fs) ∧ 0 < n ∧ n ≤ 1000 ∧ 1 ≤ fs.length ∧ t ≤ 1000 ∧ fs.length ^ t ≤ 1000 ∧ fs.length ≤ 1000 ∧ P (.d (.tuple (tab n (hs n (pw fs t)))))
theorem has__law_listed (T : Tk P K mg) : ∃ fd, Has P w K mg base 1 "_law_listed" s__law_listed ["_law_many", "_law_spots", "_law_laps"] fn__law_listed fd := by
  obtain ⟨fd, F⟩ := T.f__law_listed
  have hb := F.binds (ps := ["_law_many", "_law_spots", "_law_laps"]) fun _ _ _ _ _ _ us hl => match us, hl with | [_, _, _], _ => rfl
  refine ⟨fd, T.g__law_listed, F.kp, F, hb, fnD F sc__law_listed (by decide) fun cdv A outer s H E hr => ⟨_, _, (dss_cons (ds_set false 3 (de_lst (da_cons de_int da_nil)) sc__law_listed.nd)
    (dss_cons (ds_for poD rfl (di_rng1 (dv 2) rfl T.n_range) (dg_name 4 sc__law_listed.nd) (dss_cons (ds_set false 5 (de_lst da_nil) sc__law_listed.nd)
    (dss_cons (ds_for poD rfl (di_seqk (KK := K) (dv 3)) (dg_name 6 sc__law_listed.nd) (dss_one (ds_set false 5 (de_op (do_addk (KK := K)) (dv 5) (de_lc rfl sc__law_listed.nd (own := [("_law_spot", 7)]) (di_seqk (KK := K) (dv 1)) (blk_of (by kernel_rfl)) (fun _ _ _ _ _ => (dg_name 7 sc__law_listed.nd)) (fun _ _ _ _ _ => dts_nil) (fun _ _ _ _ _ => (de_op (do_addk (KK := K)) (dv 6) (dv 7))))) sc__law_listed.nd)))
    (dss_one (ds_set false 3 (dv 5) sc__law_listed.nd)))))
    (dss_cons (ds_setLcO (i := 8) false rfl sc__law_listed.nd rfl rfl rfl (own := [("_law_k", 4)]) (di_rng1 (dv 0) rfl T.n_range) (blk_of (by kernel_rfl)) (fun _ _ _ _ _ => (dg_name 4 sc__law_listed.nd)) (fun _ _ _ _ _ => dts_nil) (fun _ _ _ _ _ => de_int))
    (dss_cons (ds_for poD rfl (di_seqk (KK := K) (dv 3)) (dg_name 6 sc__law_listed.nd) (dss_one (ds_putAk (KK := K) false 8 dip_add (de_op do_mod (de_callTy dc_int rfl T.n_int bt_int (da_cons (dv 6) da_nil)) (dv 0)) de_int)))
    (dss_one (ds_ret true (de_callTy (dc_tuplek (KK := K)) rfl T.n_tuple bt_tuple (da_cons (dv 8) da_nil)))))))), ?_⟩⟩
  rintro as Q PX hl ⟨n, sp, fs, t, rfl, hsp, h0, hn, hf, ht, hsz, hfl, hp⟩
  have pl : ∀ i, i ≤ t → (pw fs i).length ≤ 1000 := fun i hi => by
    rw [pw_len]
    exact Nat.le_trans (Nat.pow_le_pow_right hf hi) hsz
  refine i_seq fun N hN => ?_
  simp [vw_jk, at_0, at_1, at_2, at_3, at_4, ix_40, ix_41, ix_42, ix_43, boolsD_comp, intsD_comp, sh_int, sh_bool, sh_none, sh_str, ev_int, ev_bool, ev_str, ev_none, ev_ni, ev_in, uIfS, evT, ev, uRet, uRetO, uRetN, uDrop, uSet, uSetO, uMove, uFrz, uNext, uBreak, uCont, uApp, uIns, uPut, uPutA, uAug, uRaise, uVar, uC, uOp, uUn, uTru, uTst, uNot, uAnd, uOr, uAndV, uOrV, uNotV, uIf, uNil, uCons, argU, uTup, uLst, allD, onDs, onD, onT, onBool, oI, oIC, oAdd, oEq, oIsN, isN_none, isN_int, isN_bool, isN_str, isN_list, isN_tup, truD, oIx, uSl, uPart, uNoP, oSl, uCB, oLen, oList, oTuple, oInt, oAbs, oAll, oAny, oSum, onB, onI, uIs, uIs2, isT, uCall, uCallP, pick, vw, vw1, okU, okX, nolU, nol, nols, startU, kOf, kQ, kT, onL, uSeqI, uRng1, uRng2, rOk, uEnum, uRep, uTupRev, uYes, ugN, ugT2, wipeU, setU, uIfQ, uRetQ, uSetQ, uPutQ, ixC, szD, List.map_cons, List.map_nil, List.length_cons, List.length_nil, List.replicate, List.cons_append, List.nil_append, List.getElem?_cons_zero, List.getElem?_cons_succ, List.set_cons_zero, List.set_cons_succ, Option.map_some, Option.map_none, List.getD, Option.getD_some, if_true, true_and, and_true, Nat.reduceAdd, Nat.reduceSub, reduceIte, Bool.false_eq_true, Bool.not_true, Bool.not_false]
  refine ⟨by decide, ?_⟩
  rw [hN]
  refine i_seq fun N2 hN2 => ?_
  refine i_for ?_
  simp [vw_jk, at_0, at_1, at_2, at_3, at_4, ix_40, ix_41, ix_42, ix_43, boolsD_comp, intsD_comp, sh_int, sh_bool, sh_none, sh_str, ev_int, ev_bool, ev_str, ev_none, ev_ni, ev_in, uIfS, evT, ev, uRet, uRetO, uRetN, uDrop, uSet, uSetO, uMove, uFrz, uNext, uBreak, uCont, uApp, uIns, uPut, uPutA, uAug, uRaise, uVar, uC, uOp, uUn, uTru, uTst, uNot, uAnd, uOr, uAndV, uOrV, uNotV, uIf, uNil, uCons, argU, uTup, uLst, allD, onDs, onD, onT, onBool, oI, oIC, oAdd, oEq, oIsN, isN_none, isN_int, isN_bool, isN_str, isN_list, isN_tup, truD, oIx, uSl, uPart, uNoP, oSl, uCB, oLen, oList, oTuple, oInt, oAbs, oAll, oAny, oSum, onB, onI, uIs, uIs2, isT, uCall, uCallP, pick, vw, vw1, okU, okX, nolU, nol, nols, startU, kOf, kQ, kT, onL, uSeqI, uRng1, uRng2, rOk, uEnum, uRep, uTupRev, uYes, ugN, ugT2, wipeU, setU, uIfQ, uRetQ, uSetQ, uPutQ, ixC, szD, List.map_cons, List.map_nil, List.length_cons, List.length_nil, List.replicate, List.cons_append, List.nil_append, List.getElem?_cons_zero, List.getElem?_cons_succ, List.set_cons_zero, List.set_cons_succ, Option.map_some, Option.map_none, List.getD, Option.getD_some, if_true, true_and, and_true, Nat.reduceAdd, Nat.reduceSub, reduceIte, Bool.false_eq_true, Bool.not_true, Bool.not_false]
  refine ⟨by omega, fun i s' => ∃ (o4 o5 o6 : Option D), s' = [some (.d (.int n)), some (.d sp), some (.d (.int t)), some (.d (.list (natL (pw fs i)))), jk o4, jk o5, jk o6, none, none], ⟨none, none, none, rfl⟩, fun i d s' e hs' => ?_, fun s' hs' => ?_⟩
  · obtain ⟨o4, o5, o6, rfl⟩ := hs'
    obtain ⟨rfl, hi⟩ := get_rngD e
    have hi2 : i < t := by simpa using hi
    have b1 := pl (i + 1) (by omega)
    refine i_seq fun N3 hN3 => ?_
    simp [vw_jk, at_0, at_1, at_2, at_3, at_4, ix_40, ix_41, ix_42, ix_43, boolsD_comp, intsD_comp, sh_int, sh_bool, sh_none, sh_str, ev_int, ev_bool, ev_str, ev_none, ev_ni, ev_in, uIfS, evT, ev, uRet, uRetO, uRetN, uDrop, uSet, uSetO, uMove, uFrz, uNext, uBreak, uCont, uApp, uIns, uPut, uPutA, uAug, uRaise, uVar, uC, uOp, uUn, uTru, uTst, uNot, uAnd, uOr, uAndV, uOrV, uNotV, uIf, uNil, uCons, argU, uTup, uLst, allD, onDs, onD, onT, onBool, oI, oIC, oAdd, oEq, oIsN, isN_none, isN_int, isN_bool, isN_str, isN_list, isN_tup, truD, oIx, uSl, uPart, uNoP, oSl, uCB, oLen, oList, oTuple, oInt, oAbs, oAll, oAny, oSum, onB, onI, uIs, uIs2, isT, uCall, uCallP, pick, vw, vw1, okU, okX, nolU, nol, nols, startU, kOf, kQ, kT, onL, uSeqI, uRng1, uRng2, rOk, uEnum, uRep, uTupRev, uYes, ugN, ugT2, wipeU, setU, uIfQ, uRetQ, uSetQ, uPutQ, ixC, szD, List.map_cons, List.map_nil, List.length_cons, List.length_nil, List.replicate, List.cons_append, List.nil_append, List.getElem?_cons_zero, List.getElem?_cons_succ, List.set_cons_zero, List.set_cons_succ, Option.map_some, Option.map_none, List.getD, Option.getD_some, if_true, true_and, and_true, Nat.reduceAdd, Nat.reduceSub, reduceIte, Bool.false_eq_true, Bool.not_true, Bool.not_false]
    rw [hN3]
    refine i_seq fun N4 hN4 => ?_
    refine i_for ?_
    simp [vw_jk, at_0, at_1, at_2, at_3, at_4, ix_40, ix_41, ix_42, ix_43, boolsD_comp, intsD_comp, sh_int, sh_bool, sh_none, sh_str, ev_int, ev_bool, ev_str, ev_none, ev_ni, ev_in, uIfS, evT, ev, uRet, uRetO, uRetN, uDrop, uSet, uSetO, uMove, uFrz, uNext, uBreak, uCont, uApp, uIns, uPut, uPutA, uAug, uRaise, uVar, uC, uOp, uUn, uTru, uTst, uNot, uAnd, uOr, uAndV, uOrV, uNotV, uIf, uNil, uCons, argU, uTup, uLst, allD, onDs, onD, onT, onBool, oI, oIC, oAdd, oEq, oIsN, isN_none, isN_int, isN_bool, isN_str, isN_list, isN_tup, truD, oIx, uSl, uPart, uNoP, oSl, uCB, oLen, oList, oTuple, oInt, oAbs, oAll, oAny, oSum, onB, onI, uIs, uIs2, isT, uCall, uCallP, pick, vw, vw1, okU, okX, nolU, nol, nols, startU, kOf, kQ, kT, onL, uSeqI, uRng1, uRng2, rOk, uEnum, uRep, uTupRev, uYes, ugN, ugT2, wipeU, setU, uIfQ, uRetQ, uSetQ, uPutQ, ixC, szD, List.map_cons, List.map_nil, List.length_cons, List.length_nil, List.replicate, List.cons_append, List.nil_append, List.getElem?_cons_zero, List.getElem?_cons_succ, List.set_cons_zero, List.set_cons_succ, Option.map_some, Option.map_none, List.getD, Option.getD_some, if_true, true_and, and_true, Nat.reduceAdd, Nat.reduceSub, reduceIte, Bool.false_eq_true, Bool.not_true, Bool.not_false]
    refine ⟨fun a s' => ∃ (o6 : Option D), s' = [some (.d (.int n)), some (.d sp), some (.d (.int t)), some (.d (.list (natL (pw fs i)))), some (.d (.int i)), some (.d (.list (natL (((pw fs i).take a).flatMap fun x => fs.map (x + ·))))), jk o6, none, none], ⟨o6, rfl⟩, fun a d2 s' e2 hs2 => ?_, fun s' hs2 => ?_⟩
    · obtain ⟨o6, rfl⟩ := hs2
      obtain ⟨x, rfl, ex⟩ := natL_get e2
      have hin : ∀ R : U → Prop, R (.own (natL (fs.map (x + ·)))) → lcIn (natL fs) (ugN 7) uYes (uOp oAdd (uVar 6) (uVar 7)) [7] [some (.d (.int n)), some (.d sp), some (.d (.int t)), some (.d (.list (natL (pw fs i)))), some (.d (.int i)), some (.d (.list (natL (((pw fs i).take a).flatMap fun x => fs.map (x + ·))))), some (.d (.int x)), none, none] R := fun R hR => by
        refine lc_fun (fun d => match d with | .int y => [.int ((x : Int) + y)] | _ => []) (by rw [natL_len]; exact lt_line (by omega)) (fun i d e => ?_) ?_
        · obtain ⟨y, rfl, _⟩ := natL_get e
          refine ⟨_, rfl, by simp, fun acc J hJ => ?_⟩
          simp [vw_jk, at_0, at_1, at_2, at_3, at_4, ix_40, ix_41, ix_42, ix_43, boolsD_comp, intsD_comp, sh_int, sh_bool, sh_none, sh_str, ev_int, ev_bool, ev_str, ev_none, ev_ni, ev_in, uIfS, evT, ev, uRet, uRetO, uRetN, uDrop, uSet, uSetO, uMove, uFrz, uNext, uBreak, uCont, uApp, uIns, uPut, uPutA, uAug, uRaise, uVar, uC, uOp, uUn, uTru, uTst, uNot, uAnd, uOr, uAndV, uOrV, uNotV, uIf, uNil, uCons, argU, uTup, uLst, allD, onDs, onD, onT, onBool, oI, oIC, oAdd, oEq, oIsN, isN_none, isN_int, isN_bool, isN_str, isN_list, isN_tup, truD, oIx, uSl, uPart, uNoP, oSl, uCB, oLen, oList, oTuple, oInt, oAbs, oAll, oAny, oSum, onB, onI, uIs, uIs2, isT, uCall, uCallP, pick, vw, vw1, okU, okX, nolU, nol, nols, startU, kOf, kQ, kT, onL, uSeqI, uRng1, uRng2, rOk, uEnum, uRep, uTupRev, uYes, ugN, ugT2, wipeU, setU, uIfQ, uRetQ, uSetQ, uPutQ, ixC, szD, List.map_cons, List.map_nil, List.length_cons, List.length_nil, List.replicate, List.cons_append, List.nil_append, List.getElem?_cons_zero, List.getElem?_cons_succ, List.set_cons_zero, List.set_cons_succ, Option.map_some, Option.map_none, List.getD, Option.getD_some, if_true, true_and, and_true, Nat.reduceAdd, Nat.reduceSub, reduceIte, Bool.false_eq_true, Bool.not_true, Bool.not_false]
          exact hJ
        · have e3 : (natL fs).flatMap (fun (d : D) => match d with | .int y => [(.int ((x : Int) + y) : D)] | _ => []) = natL (fs.map (x + ·)) := by
            unfold natL
            rw [List.flatMap_map, List.map_map]
            rw [show (fun (a : Nat) => (match (PyData.int (a : Int) : D) with | .int y => [(.int ((x : Int) + y) : D)] | _ => [])) = fun (a : Nat) => [(.int ((x : Int) + a) : D)] from rfl, flat_one]
            refine List.map_congr_left fun y _ => ?_
            simp
          rw [e3]; exact hR
      have fin2 : ∀ R : Sl → Prop, True := fun _ => trivial
      rcases hsp with rfl | rfl
      · simp [vw_jk, at_0, at_1, at_2, at_3, at_4, ix_40, ix_41, ix_42, ix_43, boolsD_comp, intsD_comp, sh_int, sh_bool, sh_none, sh_str, ev_int, ev_bool, ev_str, ev_none, ev_ni, ev_in, uIfS, evT, ev, uRet, uRetO, uRetN, uDrop, uSet, uSetO, uMove, uFrz, uNext, uBreak, uCont, uApp, uIns, uPut, uPutA, uAug, uRaise, uVar, uC, uOp, uUn, uTru, uTst, uNot, uAnd, uOr, uAndV, uOrV, uNotV, uIf, uNil, uCons, argU, uTup, uLst, allD, onDs, onD, onT, onBool, oI, oIC, oAdd, oEq, oIsN, isN_none, isN_int, isN_bool, isN_str, isN_list, isN_tup, truD, oIx, uSl, uPart, uNoP, oSl, uCB, oLen, oList, oTuple, oInt, oAbs, oAll, oAny, oSum, onB, onI, uIs, uIs2, isT, uCall, uCallP, pick, vw, vw1, okU, okX, nolU, nol, nols, startU, kOf, kQ, kT, onL, uSeqI, uRng1, uRng2, rOk, uEnum, uRep, uTupRev, uYes, ugN, ugT2, wipeU, setU, uIfQ, uRetQ, uSetQ, uPutQ, ixC, szD, List.map_cons, List.map_nil, List.length_cons, List.length_nil, List.replicate, List.cons_append, List.nil_append, List.getElem?_cons_zero, List.getElem?_cons_succ, List.set_cons_zero, List.set_cons_succ, Option.map_some, Option.map_none, List.getD, Option.getD_some, if_true, true_and, and_true, Nat.reduceAdd, Nat.reduceSub, reduceIte, Bool.false_eq_true, Bool.not_true, Bool.not_false]
        refine i_lc ?_
        simp [vw_jk, at_0, at_1, at_2, at_3, at_4, ix_40, ix_41, ix_42, ix_43, boolsD_comp, intsD_comp, sh_int, sh_bool, sh_none, sh_str, ev_int, ev_bool, ev_str, ev_none, ev_ni, ev_in, uIfS, evT, ev, uRet, uRetO, uRetN, uDrop, uSet, uSetO, uMove, uFrz, uNext, uBreak, uCont, uApp, uIns, uPut, uPutA, uAug, uRaise, uVar, uC, uOp, uUn, uTru, uTst, uNot, uAnd, uOr, uAndV, uOrV, uNotV, uIf, uNil, uCons, argU, uTup, uLst, allD, onDs, onD, onT, onBool, oI, oIC, oAdd, oEq, oIsN, isN_none, isN_int, isN_bool, isN_str, isN_list, isN_tup, truD, oIx, uSl, uPart, uNoP, oSl, uCB, oLen, oList, oTuple, oInt, oAbs, oAll, oAny, oSum, onB, onI, uIs, uIs2, isT, uCall, uCallP, pick, vw, vw1, okU, okX, nolU, nol, nols, startU, kOf, kQ, kT, onL, uSeqI, uRng1, uRng2, rOk, uEnum, uRep, uTupRev, uYes, ugN, ugT2, wipeU, setU, uIfQ, uRetQ, uSetQ, uPutQ, ixC, szD, List.map_cons, List.map_nil, List.length_cons, List.length_nil, List.replicate, List.cons_append, List.nil_append, List.getElem?_cons_zero, List.getElem?_cons_succ, List.set_cons_zero, List.set_cons_succ, Option.map_some, Option.map_none, List.getD, Option.getD_some, if_true, true_and, and_true, Nat.reduceAdd, Nat.reduceSub, reduceIte, Bool.false_eq_true, Bool.not_true, Bool.not_false]
        refine hin _ ?_
        simp [vw_jk, at_0, at_1, at_2, at_3, at_4, ix_40, ix_41, ix_42, ix_43, boolsD_comp, intsD_comp, sh_int, sh_bool, sh_none, sh_str, ev_int, ev_bool, ev_str, ev_none, ev_ni, ev_in, uIfS, evT, ev, uRet, uRetO, uRetN, uDrop, uSet, uSetO, uMove, uFrz, uNext, uBreak, uCont, uApp, uIns, uPut, uPutA, uAug, uRaise, uVar, uC, uOp, uUn, uTru, uTst, uNot, uAnd, uOr, uAndV, uOrV, uNotV, uIf, uNil, uCons, argU, uTup, uLst, allD, onDs, onD, onT, onBool, oI, oIC, oAdd, oEq, oIsN, isN_none, isN_int, isN_bool, isN_str, isN_list, isN_tup, truD, oIx, uSl, uPart, uNoP, oSl, uCB, oLen, oList, oTuple, oInt, oAbs, oAll, oAny, oSum, onB, onI, uIs, uIs2, isT, uCall, uCallP, pick, vw, vw1, okU, okX, nolU, nol, nols, startU, kOf, kQ, kT, onL, uSeqI, uRng1, uRng2, rOk, uEnum, uRep, uTupRev, uYes, ugN, ugT2, wipeU, setU, uIfQ, uRetQ, uSetQ, uPutQ, ixC, szD, List.map_cons, List.map_nil, List.length_cons, List.length_nil, List.replicate, List.cons_append, List.nil_append, List.getElem?_cons_zero, List.getElem?_cons_succ, List.set_cons_zero, List.set_cons_succ, Option.map_some, Option.map_none, List.getD, Option.getD_some, if_true, true_and, and_true, Nat.reduceAdd, Nat.reduceSub, reduceIte, Bool.false_eq_true, Bool.not_true, Bool.not_false]
        have bl := flat_len_le (l := pw fs i) (fs := fs) a
        have bl2 : (pw fs (i + 1)).length = (pw fs i).length * fs.length := pls_len _ _
        refine ⟨lt_line (by rw [natL_len, natL_len, List.length_map]; omega), ?_, ⟨some _, rfl⟩⟩
        rw [take_flat _ ex, natL_app]
      · simp [vw_jk, at_0, at_1, at_2, at_3, at_4, ix_40, ix_41, ix_42, ix_43, boolsD_comp, intsD_comp, sh_int, sh_bool, sh_none, sh_str, ev_int, ev_bool, ev_str, ev_none, ev_ni, ev_in, uIfS, evT, ev, uRet, uRetO, uRetN, uDrop, uSet, uSetO, uMove, uFrz, uNext, uBreak, uCont, uApp, uIns, uPut, uPutA, uAug, uRaise, uVar, uC, uOp, uUn, uTru, uTst, uNot, uAnd, uOr, uAndV, uOrV, uNotV, uIf, uNil, uCons, argU, uTup, uLst, allD, onDs, onD, onT, onBool, oI, oIC, oAdd, oEq, oIsN, isN_none, isN_int, isN_bool, isN_str, isN_list, isN_tup, truD, oIx, uSl, uPart, uNoP, oSl, uCB, oLen, oList, oTuple, oInt, oAbs, oAll, oAny, oSum, onB, onI, uIs, uIs2, isT, uCall, uCallP, pick, vw, vw1, okU, okX, nolU, nol, nols, startU, kOf, kQ, kT, onL, uSeqI, uRng1, uRng2, rOk, uEnum, uRep, uTupRev, uYes, ugN, ugT2, wipeU, setU, uIfQ, uRetQ, uSetQ, uPutQ, ixC, szD, List.map_cons, List.map_nil, List.length_cons, List.length_nil, List.replicate, List.cons_append, List.nil_append, List.getElem?_cons_zero, List.getElem?_cons_succ, List.set_cons_zero, List.set_cons_succ, Option.map_some, Option.map_none, List.getD, Option.getD_some, if_true, true_and, and_true, Nat.reduceAdd, Nat.reduceSub, reduceIte, Bool.false_eq_true, Bool.not_true, Bool.not_false]
        refine i_lc ?_
        simp [vw_jk, at_0, at_1, at_2, at_3, at_4, ix_40, ix_41, ix_42, ix_43, boolsD_comp, intsD_comp, sh_int, sh_bool, sh_none, sh_str, ev_int, ev_bool, ev_str, ev_none, ev_ni, ev_in, uIfS, evT, ev, uRet, uRetO, uRetN, uDrop, uSet, uSetO, uMove, uFrz, uNext, uBreak, uCont, uApp, uIns, uPut, uPutA, uAug, uRaise, uVar, uC, uOp, uUn, uTru, uTst, uNot, uAnd, uOr, uAndV, uOrV, uNotV, uIf, uNil, uCons, argU, uTup, uLst, allD, onDs, onD, onT, onBool, oI, oIC, oAdd, oEq, oIsN, isN_none, isN_int, isN_bool, isN_str, isN_list, isN_tup, truD, oIx, uSl, uPart, uNoP, oSl, uCB, oLen, oList, oTuple, oInt, oAbs, oAll, oAny, oSum, onB, onI, uIs, uIs2, isT, uCall, uCallP, pick, vw, vw1, okU, okX, nolU, nol, nols, startU, kOf, kQ, kT, onL, uSeqI, uRng1, uRng2, rOk, uEnum, uRep, uTupRev, uYes, ugN, ugT2, wipeU, setU, uIfQ, uRetQ, uSetQ, uPutQ, ixC, szD, List.map_cons, List.map_nil, List.length_cons, List.length_nil, List.replicate, List.cons_append, List.nil_append, List.getElem?_cons_zero, List.getElem?_cons_succ, List.set_cons_zero, List.set_cons_succ, Option.map_some, Option.map_none, List.getD, Option.getD_some, if_true, true_and, and_true, Nat.reduceAdd, Nat.reduceSub, reduceIte, Bool.false_eq_true, Bool.not_true, Bool.not_false]
        refine hin _ ?_
        simp [vw_jk, at_0, at_1, at_2, at_3, at_4, ix_40, ix_41, ix_42, ix_43, boolsD_comp, intsD_comp, sh_int, sh_bool, sh_none, sh_str, ev_int, ev_bool, ev_str, ev_none, ev_ni, ev_in, uIfS, evT, ev, uRet, uRetO, uRetN, uDrop, uSet, uSetO, uMove, uFrz, uNext, uBreak, uCont, uApp, uIns, uPut, uPutA, uAug, uRaise, uVar, uC, uOp, uUn, uTru, uTst, uNot, uAnd, uOr, uAndV, uOrV, uNotV, uIf, uNil, uCons, argU, uTup, uLst, allD, onDs, onD, onT, onBool, oI, oIC, oAdd, oEq, oIsN, isN_none, isN_int, isN_bool, isN_str, isN_list, isN_tup, truD, oIx, uSl, uPart, uNoP, oSl, uCB, oLen, oList, oTuple, oInt, oAbs, oAll, oAny, oSum, onB, onI, uIs, uIs2, isT, uCall, uCallP, pick, vw, vw1, okU, okX, nolU, nol, nols, startU, kOf, kQ, kT, onL, uSeqI, uRng1, uRng2, rOk, uEnum, uRep, uTupRev, uYes, ugN, ugT2, wipeU, setU, uIfQ, uRetQ, uSetQ, uPutQ, ixC, szD, List.map_cons, List.map_nil, List.length_cons, List.length_nil, List.replicate, List.cons_append, List.nil_append, List.getElem?_cons_zero, List.getElem?_cons_succ, List.set_cons_zero, List.set_cons_succ, Option.map_some, Option.map_none, List.getD, Option.getD_some, if_true, true_and, and_true, Nat.reduceAdd, Nat.reduceSub, reduceIte, Bool.false_eq_true, Bool.not_true, Bool.not_false]
        have bl := flat_len_le (l := pw fs i) (fs := fs) a
        have bl2 : (pw fs (i + 1)).length = (pw fs i).length * fs.length := pls_len _ _
        refine ⟨lt_line (by rw [natL_len, natL_len, List.length_map]; omega), ?_, ⟨some _, rfl⟩⟩
        rw [take_flat _ ex, natL_app]
    · obtain ⟨o6, rfl⟩ := hs2
      rw [hN4]
      simp [vw_jk, at_0, at_1, at_2, at_3, at_4, ix_40, ix_41, ix_42, ix_43, boolsD_comp, intsD_comp, sh_int, sh_bool, sh_none, sh_str, ev_int, ev_bool, ev_str, ev_none, ev_ni, ev_in, uIfS, evT, ev, uRet, uRetO, uRetN, uDrop, uSet, uSetO, uMove, uFrz, uNext, uBreak, uCont, uApp, uIns, uPut, uPutA, uAug, uRaise, uVar, uC, uOp, uUn, uTru, uTst, uNot, uAnd, uOr, uAndV, uOrV, uNotV, uIf, uNil, uCons, argU, uTup, uLst, allD, onDs, onD, onT, onBool, oI, oIC, oAdd, oEq, oIsN, isN_none, isN_int, isN_bool, isN_str, isN_list, isN_tup, truD, oIx, uSl, uPart, uNoP, oSl, uCB, oLen, oList, oTuple, oInt, oAbs, oAll, oAny, oSum, onB, onI, uIs, uIs2, isT, uCall, uCallP, pick, vw, vw1, okU, okX, nolU, nol, nols, startU, kOf, kQ, kT, onL, uSeqI, uRng1, uRng2, rOk, uEnum, uRep, uTupRev, uYes, ugN, ugT2, wipeU, setU, uIfQ, uRetQ, uSetQ, uPutQ, ixC, szD, List.map_cons, List.map_nil, List.length_cons, List.length_nil, List.replicate, List.cons_append, List.nil_append, List.getElem?_cons_zero, List.getElem?_cons_succ, List.set_cons_zero, List.set_cons_succ, Option.map_some, Option.map_none, List.getD, Option.getD_some, if_true, true_and, and_true, Nat.reduceAdd, Nat.reduceSub, reduceIte, Bool.false_eq_true, Bool.not_true, Bool.not_false]
      exact ⟨by rw [natL_len, List.take_length]; rfl, ⟨some _, rfl⟩, ⟨some _, rfl⟩, ⟨o6, rfl⟩⟩
  · obtain ⟨o4, o5, o6, rfl⟩ := hs'
    rw [hN2]
    refine i_seq fun N3 hN3 => ?_
    simp [vw_jk, at_0, at_1, at_2, at_3, at_4, ix_40, ix_41, ix_42, ix_43, boolsD_comp, intsD_comp, sh_int, sh_bool, sh_none, sh_str, ev_int, ev_bool, ev_str, ev_none, ev_ni, ev_in, uIfS, evT, ev, uRet, uRetO, uRetN, uDrop, uSet, uSetO, uMove, uFrz, uNext, uBreak, uCont, uApp, uIns, uPut, uPutA, uAug, uRaise, uVar, uC, uOp, uUn, uTru, uTst, uNot, uAnd, uOr, uAndV, uOrV, uNotV, uIf, uNil, uCons, argU, uTup, uLst, allD, onDs, onD, onT, onBool, oI, oIC, oAdd, oEq, oIsN, isN_none, isN_int, isN_bool, isN_str, isN_list, isN_tup, truD, oIx, uSl, uPart, uNoP, oSl, uCB, oLen, oList, oTuple, oInt, oAbs, oAll, oAny, oSum, onB, onI, uIs, uIs2, isT, uCall, uCallP, pick, vw, vw1, okU, okX, nolU, nol, nols, startU, kOf, kQ, kT, onL, uSeqI, uRng1, uRng2, rOk, uEnum, uRep, uTupRev, uYes, ugN, ugT2, wipeU, setU, uIfQ, uRetQ, uSetQ, uPutQ, ixC, szD, List.map_cons, List.map_nil, List.length_cons, List.length_nil, List.replicate, List.cons_append, List.nil_append, List.getElem?_cons_zero, List.getElem?_cons_succ, List.set_cons_zero, List.set_cons_succ, Option.map_some, Option.map_none, List.getD, Option.getD_some, if_true, true_and, and_true, Nat.reduceAdd, Nat.reduceSub, reduceIte, Bool.false_eq_true, Bool.not_true, Bool.not_false]
    refine i_lc ?_
    simp [vw_jk, at_0, at_1, at_2, at_3, at_4, ix_40, ix_41, ix_42, ix_43, boolsD_comp, intsD_comp, sh_int, sh_bool, sh_none, sh_str, ev_int, ev_bool, ev_str, ev_none, ev_ni, ev_in, uIfS, evT, ev, uRet, uRetO, uRetN, uDrop, uSet, uSetO, uMove, uFrz, uNext, uBreak, uCont, uApp, uIns, uPut, uPutA, uAug, uRaise, uVar, uC, uOp, uUn, uTru, uTst, uNot, uAnd, uOr, uAndV, uOrV, uNotV, uIf, uNil, uCons, argU, uTup, uLst, allD, onDs, onD, onT, onBool, oI, oIC, oAdd, oEq, oIsN, isN_none, isN_int, isN_bool, isN_str, isN_list, isN_tup, truD, oIx, uSl, uPart, uNoP, oSl, uCB, oLen, oList, oTuple, oInt, oAbs, oAll, oAny, oSum, onB, onI, uIs, uIs2, isT, uCall, uCallP, pick, vw, vw1, okU, okX, nolU, nol, nols, startU, kOf, kQ, kT, onL, uSeqI, uRng1, uRng2, rOk, uEnum, uRep, uTupRev, uYes, ugN, ugT2, wipeU, setU, uIfQ, uRetQ, uSetQ, uPutQ, ixC, szD, List.map_cons, List.map_nil, List.length_cons, List.length_nil, List.replicate, List.cons_append, List.nil_append, List.getElem?_cons_zero, List.getElem?_cons_succ, List.set_cons_zero, List.set_cons_succ, Option.map_some, Option.map_none, List.getD, Option.getD_some, if_true, true_and, and_true, Nat.reduceAdd, Nat.reduceSub, reduceIte, Bool.false_eq_true, Bool.not_true, Bool.not_false]
    refine ⟨by omega, ?_⟩
    refine lc_fun (fun _ => [.int 0]) (by rw [rngD_len]; exact lt_line (by omega)) (fun i d e => ⟨_, rfl, by simp, fun acc J hJ => ?_⟩) ?_
    · simp [vw_jk, at_0, at_1, at_2, at_3, at_4, ix_40, ix_41, ix_42, ix_43, boolsD_comp, intsD_comp, sh_int, sh_bool, sh_none, sh_str, ev_int, ev_bool, ev_str, ev_none, ev_ni, ev_in, uIfS, evT, ev, uRet, uRetO, uRetN, uDrop, uSet, uSetO, uMove, uFrz, uNext, uBreak, uCont, uApp, uIns, uPut, uPutA, uAug, uRaise, uVar, uC, uOp, uUn, uTru, uTst, uNot, uAnd, uOr, uAndV, uOrV, uNotV, uIf, uNil, uCons, argU, uTup, uLst, allD, onDs, onD, onT, onBool, oI, oIC, oAdd, oEq, oIsN, isN_none, isN_int, isN_bool, isN_str, isN_list, isN_tup, truD, oIx, uSl, uPart, uNoP, oSl, uCB, oLen, oList, oTuple, oInt, oAbs, oAll, oAny, oSum, onB, onI, uIs, uIs2, isT, uCall, uCallP, pick, vw, vw1, okU, okX, nolU, nol, nols, startU, kOf, kQ, kT, onL, uSeqI, uRng1, uRng2, rOk, uEnum, uRep, uTupRev, uYes, ugN, ugT2, wipeU, setU, uIfQ, uRetQ, uSetQ, uPutQ, ixC, szD, List.map_cons, List.map_nil, List.length_cons, List.length_nil, List.replicate, List.cons_append, List.nil_append, List.getElem?_cons_zero, List.getElem?_cons_succ, List.set_cons_zero, List.set_cons_succ, Option.map_some, Option.map_none, List.getD, Option.getD_some, if_true, true_and, and_true, Nat.reduceAdd, Nat.reduceSub, reduceIte, Bool.false_eq_true, Bool.not_true, Bool.not_false]; exact hJ
    rw [rngD_len]
    rw [show (rngD 0 n).flatMap (fun _ => [PyData.int 0]) = tab n fun _ => 0 from by rw [rngD_flat, flat_one]; rfl]
    simp [vw_jk, at_0, at_1, at_2, at_3, at_4, ix_40, ix_41, ix_42, ix_43, boolsD_comp, intsD_comp, sh_int, sh_bool, sh_none, sh_str, ev_int, ev_bool, ev_str, ev_none, ev_ni, ev_in, uIfS, evT, ev, uRet, uRetO, uRetN, uDrop, uSet, uSetO, uMove, uFrz, uNext, uBreak, uCont, uApp, uIns, uPut, uPutA, uAug, uRaise, uVar, uC, uOp, uUn, uTru, uTst, uNot, uAnd, uOr, uAndV, uOrV, uNotV, uIf, uNil, uCons, argU, uTup, uLst, allD, onDs, onD, onT, onBool, oI, oIC, oAdd, oEq, oIsN, isN_none, isN_int, isN_bool, isN_str, isN_list, isN_tup, truD, oIx, uSl, uPart, uNoP, oSl, uCB, oLen, oList, oTuple, oInt, oAbs, oAll, oAny, oSum, onB, onI, uIs, uIs2, isT, uCall, uCallP, pick, vw, vw1, okU, okX, nolU, nol, nols, startU, kOf, kQ, kT, onL, uSeqI, uRng1, uRng2, rOk, uEnum, uRep, uTupRev, uYes, ugN, ugT2, wipeU, setU, uIfQ, uRetQ, uSetQ, uPutQ, ixC, szD, List.map_cons, List.map_nil, List.length_cons, List.length_nil, List.replicate, List.cons_append, List.nil_append, List.getElem?_cons_zero, List.getElem?_cons_succ, List.set_cons_zero, List.set_cons_succ, Option.map_some, Option.map_none, List.getD, Option.getD_some, if_true, true_and, and_true, Nat.reduceAdd, Nat.reduceSub, reduceIte, Bool.false_eq_true, Bool.not_true, Bool.not_false]
    rw [hN3]
    refine i_seq fun N4 hN4 => ?_
    refine i_for ?_
    simp [vw_jk, at_0, at_1, at_2, at_3, at_4, ix_40, ix_41, ix_42, ix_43, boolsD_comp, intsD_comp, sh_int, sh_bool, sh_none, sh_str, ev_int, ev_bool, ev_str, ev_none, ev_ni, ev_in, uIfS, evT, ev, uRet, uRetO, uRetN, uDrop, uSet, uSetO, uMove, uFrz, uNext, uBreak, uCont, uApp, uIns, uPut, uPutA, uAug, uRaise, uVar, uC, uOp, uUn, uTru, uTst, uNot, uAnd, uOr, uAndV, uOrV, uNotV, uIf, uNil, uCons, argU, uTup, uLst, allD, onDs, onD, onT, onBool, oI, oIC, oAdd, oEq, oIsN, isN_none, isN_int, isN_bool, isN_str, isN_list, isN_tup, truD, oIx, uSl, uPart, uNoP, oSl, uCB, oLen, oList, oTuple, oInt, oAbs, oAll, oAny, oSum, onB, onI, uIs, uIs2, isT, uCall, uCallP, pick, vw, vw1, okU, okX, nolU, nol, nols, startU, kOf, kQ, kT, onL, uSeqI, uRng1, uRng2, rOk, uEnum, uRep, uTupRev, uYes, ugN, ugT2, wipeU, setU, uIfQ, uRetQ, uSetQ, uPutQ, ixC, szD, List.map_cons, List.map_nil, List.length_cons, List.length_nil, List.replicate, List.cons_append, List.nil_append, List.getElem?_cons_zero, List.getElem?_cons_succ, List.set_cons_zero, List.set_cons_succ, Option.map_some, Option.map_none, List.getD, Option.getD_some, if_true, true_and, and_true, Nat.reduceAdd, Nat.reduceSub, reduceIte, Bool.false_eq_true, Bool.not_true, Bool.not_false]
    refine ⟨fun i s' => ∃ (o4 o5 o6 : Option D), s' = [some (.d (.int n)), some (.d sp), some (.d (.int t)), some (.d (.list (natL (pw fs t)))), jk o4, jk o5, jk o6, none, some (.own (tab n (hs n ((pw fs t).take i))))], ⟨_, _, _, rfl⟩, fun i d s' e hs2 => ?_, fun s' hs2 => ?_⟩
    · obtain ⟨o4, o5, o6, rfl⟩ := hs2
      obtain ⟨x, rfl, ex⟩ := natL_get e
      have hk : (x : Int) % (n : Int) = ((x % n : Nat) : Int) := by push_cast; rfl
      have hk2 : x % n < n := Nat.mod_lt _ h0
      have hix : ixN n ((x : Int) % (n : Int)) = some (x % n) := by rw [hk]; exact ixN_nat rfl hk2
      have hn0 : (0 : Int) < n := by omega
      simp [vw_jk, at_0, at_1, at_2, at_3, at_4, ix_40, ix_41, ix_42, ix_43, boolsD_comp, intsD_comp, sh_int, sh_bool, sh_none, sh_str, ev_int, ev_bool, ev_str, ev_none, ev_ni, ev_in, uIfS, evT, ev, uRet, uRetO, uRetN, uDrop, uSet, uSetO, uMove, uFrz, uNext, uBreak, uCont, uApp, uIns, uPut, uPutA, uAug, uRaise, uVar, uC, uOp, uUn, uTru, uTst, uNot, uAnd, uOr, uAndV, uOrV, uNotV, uIf, uNil, uCons, argU, uTup, uLst, allD, onDs, onD, onT, onBool, oI, oIC, oAdd, oEq, oIsN, isN_none, isN_int, isN_bool, isN_str, isN_list, isN_tup, truD, oIx, uSl, uPart, uNoP, oSl, uCB, oLen, oList, oTuple, oInt, oAbs, oAll, oAny, oSum, onB, onI, uIs, uIs2, isT, uCall, uCallP, pick, vw, vw1, okU, okX, nolU, nol, nols, startU, kOf, kQ, kT, onL, uSeqI, uRng1, uRng2, rOk, uEnum, uRep, uTupRev, uYes, ugN, ugT2, wipeU, setU, uIfQ, uRetQ, uSetQ, uPutQ, ixC, szD, List.map_cons, List.map_nil, List.length_cons, List.length_nil, List.replicate, List.cons_append, List.nil_append, List.getElem?_cons_zero, List.getElem?_cons_succ, List.set_cons_zero, List.set_cons_succ, Option.map_some, Option.map_none, List.getD, Option.getD_some, if_true, true_and, and_true, Nat.reduceAdd, Nat.reduceSub, reduceIte, Bool.false_eq_true, Bool.not_true, Bool.not_false, hn0, tab_len, hix, tab_get hk2]
      refine ⟨h0, ⟨o4, rfl⟩, ⟨o5, rfl⟩, ⟨some _, rfl⟩, ?_⟩
      have ta := tab_add (g := hs n ((pw fs t).take i)) (v := 1) hk2
      rw [ta]
      refine tab_congr fun j _ => ?_
      show _ = hs n _ j
      unfold hs
      rw [sm_take ex, Int.one_mul]
    · obtain ⟨o4, o5, o6, rfl⟩ := hs2
      rw [hN4, natL_len, List.take_length]
      simp [vw_jk, at_0, at_1, at_2, at_3, at_4, ix_40, ix_41, ix_42, ix_43, boolsD_comp, intsD_comp, sh_int, sh_bool, sh_none, sh_str, ev_int, ev_bool, ev_str, ev_none, ev_ni, ev_in, uIfS, evT, ev, uRet, uRetO, uRetN, uDrop, uSet, uSetO, uMove, uFrz, uNext, uBreak, uCont, uApp, uIns, uPut, uPutA, uAug, uRaise, uVar, uC, uOp, uUn, uTru, uTst, uNot, uAnd, uOr, uAndV, uOrV, uNotV, uIf, uNil, uCons, argU, uTup, uLst, allD, onDs, onD, onT, onBool, oI, oIC, oAdd, oEq, oIsN, isN_none, isN_int, isN_bool, isN_str, isN_list, isN_tup, truD, oIx, uSl, uPart, uNoP, oSl, uCB, oLen, oList, oTuple, oInt, oAbs, oAll, oAny, oSum, onB, onI, uIs, uIs2, isT, uCall, uCallP, pick, vw, vw1, okU, okX, nolU, nol, nols, startU, kOf, kQ, kT, onL, uSeqI, uRng1, uRng2, rOk, uEnum, uRep, uTupRev, uYes, ugN, ugT2, wipeU, setU, uIfQ, uRetQ, uSetQ, uPutQ, ixC, szD, List.map_cons, List.map_nil, List.length_cons, List.length_nil, List.replicate, List.cons_append, List.nil_append, List.getElem?_cons_zero, List.getElem?_cons_succ, List.set_cons_zero, List.set_cons_succ, Option.map_some, Option.map_none, List.getD, Option.getD_some, if_true, true_and, and_true, Nat.reduceAdd, Nat.reduceSub, reduceIte, Bool.false_eq_true, Bool.not_true, Bool.not_false]
      exact ⟨nols_map _ (fun _ => rfl) _, hp⟩
theorem sc__law_joined : FnScope ["_law_many", "_law_left", "_law_right", "_law_counts", "_law_k", "_law_a", "_law_b"] ["_law_many", "_law_left", "_law_right"] (defScope s__law_joined) := ⟨rfl, rfl, rfl, by decide +kernel, rfl, by decide +kernel, by decide +kernel⟩
/-- one row of a product of tables, then all -/
def jrow (n : Nat) (gl gr : Nat → Int) (a b j : Nat) : Int := sm (List.range b) fun y => gl a * (gr y * ind ((a + y) % n = j))
def jall (n : Nat) (gl gr : Nat → Int) (a j : Nat) : Int := sm (List.range a) fun x => jrow n gl gr x n j
def fn__law_joined : Fn := fun as P PX => ∃ (n : Nat) (gl gr : Nat → Int), as = [.d (.int n), .d (.list (tab n gl)), .d (.list (tab n gr))] ∧ 0 < n ∧ n ≤ 1000 ∧ (∀ a, 0 ≤ gl a ∧ (gl a).natAbs < 2 ^ 400) ∧ (∀ a, (gr a).natAbs < 2 ^ 400) ∧ P (.own (tab n (jall n gl gr n)))
theorem has__law_joined (T : Tk P K mg) : ∃ fd, Has P w K mg base 1 "_law_joined" s__law_joined ["_law_many", "_law_left", "_law_right"] fn__law_joined fd := by
  obtain ⟨fd, F⟩ := T.f__law_joined
  have hb := F.binds (ps := ["_law_many", "_law_left", "_law_right"]) fun _ _ _ _ _ _ us hl => match us, hl with | [_, _, _], _ => rfl
  refine ⟨fd, T.g__law_joined, F.kp, F, hb, fnD F sc__law_joined (by decide) fun cdv A outer s H E hr => ⟨_, _, (dss_cons (ds_setLcO (i := 3) false rfl sc__law_joined.nd rfl rfl rfl (own := [("_law_k", 4)]) (di_rng1 (dv 0) rfl T.n_range) (blk_of (by kernel_rfl)) (fun _ _ _ _ _ => (dg_name 4 sc__law_joined.nd)) (fun _ _ _ _ _ => dts_nil) (fun _ _ _ _ _ => de_int))
    (dss_cons (ds_for poD rfl (di_rng1 (dv 0) rfl T.n_range) (dg_name 5 sc__law_joined.nd) (dss_one (ds_if false (dt_cmp do_gt (de_ixk (KK := K) (dv 1) (dv 5)) de_int) (dss_one (ds_for poD rfl (di_rng1 (dv 0) rfl T.n_range) (dg_name 6 sc__law_joined.nd) (dss_one (ds_putAk (KK := K) false 3 dip_add (de_op do_mod (de_callTy dc_int rfl T.n_int bt_int (da_cons (de_op (do_addk (KK := K)) (dv 5) (dv 6)) da_nil)) (dv 0)) (de_op do_mul (de_ixk (KK := K) (dv 1) (dv 5)) (de_ixk (KK := K) (dv 2) (dv 6))))))) dss_nil)))
    (dss_one (ds_retO 3)))), ?_⟩⟩
  rintro as Q PX hl ⟨n, gl, gr, rfl, h0, hn, hgl, hgr, hp⟩
  have hn0 : (0 : Int) < n := by omega
  refine i_seq fun N hN => ?_
  simp [vw_jk, at_0, at_1, at_2, at_3, at_4, ix_40, ix_41, ix_42, ix_43, boolsD_comp, intsD_comp, sh_int, sh_bool, sh_none, sh_str, ev_int, ev_bool, ev_str, ev_none, ev_ni, ev_in, uIfS, evT, ev, uRet, uRetO, uRetN, uDrop, uSet, uSetO, uMove, uFrz, uNext, uBreak, uCont, uApp, uIns, uPut, uPutA, uAug, uRaise, uVar, uC, uOp, uUn, uTru, uTst, uNot, uAnd, uOr, uAndV, uOrV, uNotV, uIf, uNil, uCons, argU, uTup, uLst, allD, onDs, onD, onT, onBool, oI, oIC, oAdd, oEq, oIsN, isN_none, isN_int, isN_bool, isN_str, isN_list, isN_tup, truD, oIx, uSl, uPart, uNoP, oSl, uCB, oLen, oList, oTuple, oInt, oAbs, oAll, oAny, oSum, onB, onI, uIs, uIs2, isT, uCall, uCallP, pick, vw, vw1, okU, okX, nolU, nol, nols, startU, kOf, kQ, kT, onL, uSeqI, uRng1, uRng2, rOk, uEnum, uRep, uTupRev, uYes, ugN, ugT2, wipeU, setU, uIfQ, uRetQ, uSetQ, uPutQ, ixC, szD, List.map_cons, List.map_nil, List.length_cons, List.length_nil, List.replicate, List.cons_append, List.nil_append, List.getElem?_cons_zero, List.getElem?_cons_succ, List.set_cons_zero, List.set_cons_succ, Option.map_some, Option.map_none, List.getD, Option.getD_some, if_true, true_and, and_true, Nat.reduceAdd, Nat.reduceSub, reduceIte, Bool.false_eq_true, Bool.not_true, Bool.not_false]
  refine i_lc ?_
  simp [vw_jk, at_0, at_1, at_2, at_3, at_4, ix_40, ix_41, ix_42, ix_43, boolsD_comp, intsD_comp, sh_int, sh_bool, sh_none, sh_str, ev_int, ev_bool, ev_str, ev_none, ev_ni, ev_in, uIfS, evT, ev, uRet, uRetO, uRetN, uDrop, uSet, uSetO, uMove, uFrz, uNext, uBreak, uCont, uApp, uIns, uPut, uPutA, uAug, uRaise, uVar, uC, uOp, uUn, uTru, uTst, uNot, uAnd, uOr, uAndV, uOrV, uNotV, uIf, uNil, uCons, argU, uTup, uLst, allD, onDs, onD, onT, onBool, oI, oIC, oAdd, oEq, oIsN, isN_none, isN_int, isN_bool, isN_str, isN_list, isN_tup, truD, oIx, uSl, uPart, uNoP, oSl, uCB, oLen, oList, oTuple, oInt, oAbs, oAll, oAny, oSum, onB, onI, uIs, uIs2, isT, uCall, uCallP, pick, vw, vw1, okU, okX, nolU, nol, nols, startU, kOf, kQ, kT, onL, uSeqI, uRng1, uRng2, rOk, uEnum, uRep, uTupRev, uYes, ugN, ugT2, wipeU, setU, uIfQ, uRetQ, uSetQ, uPutQ, ixC, szD, List.map_cons, List.map_nil, List.length_cons, List.length_nil, List.replicate, List.cons_append, List.nil_append, List.getElem?_cons_zero, List.getElem?_cons_succ, List.set_cons_zero, List.set_cons_succ, Option.map_some, Option.map_none, List.getD, Option.getD_some, if_true, true_and, and_true, Nat.reduceAdd, Nat.reduceSub, reduceIte, Bool.false_eq_true, Bool.not_true, Bool.not_false]
  refine ⟨by omega, ?_⟩
  refine lc_fun (fun _ => [.int 0]) (by rw [rngD_len]; exact lt_line (by omega)) (fun i d e => ⟨_, rfl, by simp, fun acc J hJ => ?_⟩) ?_
  · simp [vw_jk, at_0, at_1, at_2, at_3, at_4, ix_40, ix_41, ix_42, ix_43, boolsD_comp, intsD_comp, sh_int, sh_bool, sh_none, sh_str, ev_int, ev_bool, ev_str, ev_none, ev_ni, ev_in, uIfS, evT, ev, uRet, uRetO, uRetN, uDrop, uSet, uSetO, uMove, uFrz, uNext, uBreak, uCont, uApp, uIns, uPut, uPutA, uAug, uRaise, uVar, uC, uOp, uUn, uTru, uTst, uNot, uAnd, uOr, uAndV, uOrV, uNotV, uIf, uNil, uCons, argU, uTup, uLst, allD, onDs, onD, onT, onBool, oI, oIC, oAdd, oEq, oIsN, isN_none, isN_int, isN_bool, isN_str, isN_list, isN_tup, truD, oIx, uSl, uPart, uNoP, oSl, uCB, oLen, oList, oTuple, oInt, oAbs, oAll, oAny, oSum, onB, onI, uIs, uIs2, isT, uCall, uCallP, pick, vw, vw1, okU, okX, nolU, nol, nols, startU, kOf, kQ, kT, onL, uSeqI, uRng1, uRng2, rOk, uEnum, uRep, uTupRev, uYes, ugN, ugT2, wipeU, setU, uIfQ, uRetQ, uSetQ, uPutQ, ixC, szD, List.map_cons, List.map_nil, List.length_cons, List.length_nil, List.replicate, List.cons_append, List.nil_append, List.getElem?_cons_zero, List.getElem?_cons_succ, List.set_cons_zero, List.set_cons_succ, Option.map_some, Option.map_none, List.getD, Option.getD_some, if_true, true_and, and_true, Nat.reduceAdd, Nat.reduceSub, reduceIte, Bool.false_eq_true, Bool.not_true, Bool.not_false]; exact hJ
  rw [show (rngD 0 n).flatMap (fun _ => [PyData.int 0]) = tab n fun _ => 0 from by rw [rngD_flat, flat_one]; rfl]
  simp [vw_jk, at_0, at_1, at_2, at_3, at_4, ix_40, ix_41, ix_42, ix_43, boolsD_comp, intsD_comp, sh_int, sh_bool, sh_none, sh_str, ev_int, ev_bool, ev_str, ev_none, ev_ni, ev_in, uIfS, evT, ev, uRet, uRetO, uRetN, uDrop, uSet, uSetO, uMove, uFrz, uNext, uBreak, uCont, uApp, uIns, uPut, uPutA, uAug, uRaise, uVar, uC, uOp, uUn, uTru, uTst, uNot, uAnd, uOr, uAndV, uOrV, uNotV, uIf, uNil, uCons, argU, uTup, uLst, allD, onDs, onD, onT, onBool, oI, oIC, oAdd, oEq, oIsN, isN_none, isN_int, isN_bool, isN_str, isN_list, isN_tup, truD, oIx, uSl, uPart, uNoP, oSl, uCB, oLen, oList, oTuple, oInt, oAbs, oAll, oAny, oSum, onB, onI, uIs, uIs2, isT, uCall, uCallP, pick, vw, vw1, okU, okX, nolU, nol, nols, startU, kOf, kQ, kT, onL, uSeqI, uRng1, uRng2, rOk, uEnum, uRep, uTupRev, uYes, ugN, ugT2, wipeU, setU, uIfQ, uRetQ, uSetQ, uPutQ, ixC, szD, List.map_cons, List.map_nil, List.length_cons, List.length_nil, List.replicate, List.cons_append, List.nil_append, List.getElem?_cons_zero, List.getElem?_cons_succ, List.set_cons_zero, List.set_cons_succ, Option.map_some, Option.map_none, List.getD, Option.getD_some, if_true, true_and, and_true, Nat.reduceAdd, Nat.reduceSub, reduceIte, Bool.false_eq_true, Bool.not_true, Bool.not_false]
  rw [hN]
  refine i_seq fun N2 hN2 => ?_
  refine i_for ?_
  simp [vw_jk, at_0, at_1, at_2, at_3, at_4, ix_40, ix_41, ix_42, ix_43, boolsD_comp, intsD_comp, sh_int, sh_bool, sh_none, sh_str, ev_int, ev_bool, ev_str, ev_none, ev_ni, ev_in, uIfS, evT, ev, uRet, uRetO, uRetN, uDrop, uSet, uSetO, uMove, uFrz, uNext, uBreak, uCont, uApp, uIns, uPut, uPutA, uAug, uRaise, uVar, uC, uOp, uUn, uTru, uTst, uNot, uAnd, uOr, uAndV, uOrV, uNotV, uIf, uNil, uCons, argU, uTup, uLst, allD, onDs, onD, onT, onBool, oI, oIC, oAdd, oEq, oIsN, isN_none, isN_int, isN_bool, isN_str, isN_list, isN_tup, truD, oIx, uSl, uPart, uNoP, oSl, uCB, oLen, oList, oTuple, oInt, oAbs, oAll, oAny, oSum, onB, onI, uIs, uIs2, isT, uCall, uCallP, pick, vw, vw1, okU, okX, nolU, nol, nols, startU, kOf, kQ, kT, onL, uSeqI, uRng1, uRng2, rOk, uEnum, uRep, uTupRev, uYes, ugN, ugT2, wipeU, setU, uIfQ, uRetQ, uSetQ, uPutQ, ixC, szD, List.map_cons, List.map_nil, List.length_cons, List.length_nil, List.replicate, List.cons_append, List.nil_append, List.getElem?_cons_zero, List.getElem?_cons_succ, List.set_cons_zero, List.set_cons_succ, Option.map_some, Option.map_none, List.getD, Option.getD_some, if_true, true_and, and_true, Nat.reduceAdd, Nat.reduceSub, reduceIte, Bool.false_eq_true, Bool.not_true, Bool.not_false]
  refine ⟨by omega, fun a s' => ∃ (o5 o6 : Option D), s' = [some (.d (.int n)), some (.d (.list (tab n gl))), some (.d (.list (tab n gr))), some (.own (tab n (jall n gl gr a))), none, jk o5, jk o6], ⟨none, none, rfl⟩, fun a d s' e hs2 => ?_, fun s' hs2 => ?_⟩
  · obtain ⟨o5, o6, rfl⟩ := hs2
    obtain ⟨rfl, ha⟩ := get_rngD e
    have ha2 : a < n := by simpa using ha
    have hat := tab_atI (n := n) (g := gl) (i := 0 + (a : Int)) (k := a) (by omega) ha2
    have eg := hgl a
    simp [vw_jk, at_0, at_1, at_2, at_3, at_4, ix_40, ix_41, ix_42, ix_43, boolsD_comp, intsD_comp, sh_int, sh_bool, sh_none, sh_str, ev_int, ev_bool, ev_str, ev_none, ev_ni, ev_in, uIfS, evT, ev, uRet, uRetO, uRetN, uDrop, uSet, uSetO, uMove, uFrz, uNext, uBreak, uCont, uApp, uIns, uPut, uPutA, uAug, uRaise, uVar, uC, uOp, uUn, uTru, uTst, uNot, uAnd, uOr, uAndV, uOrV, uNotV, uIf, uNil, uCons, argU, uTup, uLst, allD, onDs, onD, onT, onBool, oI, oIC, oAdd, oEq, oIsN, isN_none, isN_int, isN_bool, isN_str, isN_list, isN_tup, truD, oIx, uSl, uPart, uNoP, oSl, uCB, oLen, oList, oTuple, oInt, oAbs, oAll, oAny, oSum, onB, onI, uIs, uIs2, isT, uCall, uCallP, pick, vw, vw1, okU, okX, nolU, nol, nols, startU, kOf, kQ, kT, onL, uSeqI, uRng1, uRng2, rOk, uEnum, uRep, uTupRev, uYes, ugN, ugT2, wipeU, setU, uIfQ, uRetQ, uSetQ, uPutQ, ixC, szD, List.map_cons, List.map_nil, List.length_cons, List.length_nil, List.replicate, List.cons_append, List.nil_append, List.getElem?_cons_zero, List.getElem?_cons_succ, List.set_cons_zero, List.set_cons_succ, Option.map_some, Option.map_none, List.getD, Option.getD_some, if_true, true_and, and_true, Nat.reduceAdd, Nat.reduceSub, reduceIte, Bool.false_eq_true, Bool.not_true, Bool.not_false]
    have hat2 : atI (tab n gl) (a : Int) = some (.int (gl a)) := tab_atI rfl ha2
    simp [vw_jk, at_0, at_1, at_2, at_3, at_4, ix_40, ix_41, ix_42, ix_43, boolsD_comp, intsD_comp, sh_int, sh_bool, sh_none, sh_str, ev_int, ev_bool, ev_str, ev_none, ev_ni, ev_in, uIfS, evT, ev, uRet, uRetO, uRetN, uDrop, uSet, uSetO, uMove, uFrz, uNext, uBreak, uCont, uApp, uIns, uPut, uPutA, uAug, uRaise, uVar, uC, uOp, uUn, uTru, uTst, uNot, uAnd, uOr, uAndV, uOrV, uNotV, uIf, uNil, uCons, argU, uTup, uLst, allD, onDs, onD, onT, onBool, oI, oIC, oAdd, oEq, oIsN, isN_none, isN_int, isN_bool, isN_str, isN_list, isN_tup, truD, oIx, uSl, uPart, uNoP, oSl, uCB, oLen, oList, oTuple, oInt, oAbs, oAll, oAny, oSum, onB, onI, uIs, uIs2, isT, uCall, uCallP, pick, vw, vw1, okU, okX, nolU, nol, nols, startU, kOf, kQ, kT, onL, uSeqI, uRng1, uRng2, rOk, uEnum, uRep, uTupRev, uYes, ugN, ugT2, wipeU, setU, uIfQ, uRetQ, uSetQ, uPutQ, ixC, szD, List.map_cons, List.map_nil, List.length_cons, List.length_nil, List.replicate, List.cons_append, List.nil_append, List.getElem?_cons_zero, List.getElem?_cons_succ, List.set_cons_zero, List.set_cons_succ, Option.map_some, Option.map_none, List.getD, Option.getD_some, if_true, true_and, and_true, Nat.reduceAdd, Nat.reduceSub, reduceIte, Bool.false_eq_true, Bool.not_true, Bool.not_false, hat2]
    split
    · next hpos =>
      refine i_for ?_
      simp [vw_jk, at_0, at_1, at_2, at_3, at_4, ix_40, ix_41, ix_42, ix_43, boolsD_comp, intsD_comp, sh_int, sh_bool, sh_none, sh_str, ev_int, ev_bool, ev_str, ev_none, ev_ni, ev_in, uIfS, evT, ev, uRet, uRetO, uRetN, uDrop, uSet, uSetO, uMove, uFrz, uNext, uBreak, uCont, uApp, uIns, uPut, uPutA, uAug, uRaise, uVar, uC, uOp, uUn, uTru, uTst, uNot, uAnd, uOr, uAndV, uOrV, uNotV, uIf, uNil, uCons, argU, uTup, uLst, allD, onDs, onD, onT, onBool, oI, oIC, oAdd, oEq, oIsN, isN_none, isN_int, isN_bool, isN_str, isN_list, isN_tup, truD, oIx, uSl, uPart, uNoP, oSl, uCB, oLen, oList, oTuple, oInt, oAbs, oAll, oAny, oSum, onB, onI, uIs, uIs2, isT, uCall, uCallP, pick, vw, vw1, okU, okX, nolU, nol, nols, startU, kOf, kQ, kT, onL, uSeqI, uRng1, uRng2, rOk, uEnum, uRep, uTupRev, uYes, ugN, ugT2, wipeU, setU, uIfQ, uRetQ, uSetQ, uPutQ, ixC, szD, List.map_cons, List.map_nil, List.length_cons, List.length_nil, List.replicate, List.cons_append, List.nil_append, List.getElem?_cons_zero, List.getElem?_cons_succ, List.set_cons_zero, List.set_cons_succ, Option.map_some, Option.map_none, List.getD, Option.getD_some, if_true, true_and, and_true, Nat.reduceAdd, Nat.reduceSub, reduceIte, Bool.false_eq_true, Bool.not_true, Bool.not_false]
      refine ⟨by omega, fun b s' => ∃ (o6 : Option D), s' = [some (.d (.int n)), some (.d (.list (tab n gl))), some (.d (.list (tab n gr))), some (.own (tab n fun j => jall n gl gr a j + jrow n gl gr a b j)), none, some (.d (.int a)), jk o6], ⟨o6, ?_⟩, fun b d s' e hs3 => ?_, fun s' hs3 => ?_⟩
      · rw [show (tab n fun j => jall n gl gr a j + jrow n gl gr a 0 j) = tab n (jall n gl gr a) from tab_congr fun j _ => by
          show _ + sm [] _ = _
          rw [sm_nil, Int.add_zero]]
      · obtain ⟨o6, rfl⟩ := hs3
        obtain ⟨rfl, hb⟩ := get_rngD e
        have hb2 : b < n := by simpa using hb
        have hbt : atI (tab n gr) (b : Int) = some (.int (gr b)) := tab_atI rfl hb2
        have hk : ((a : Int) + b) % (n : Int) = (((a + b) % n : Nat) : Int) := by push_cast; rfl
        have hk2 : (a + b) % n < n := Nat.mod_lt _ h0
        have hix : ixN n (((a : Int) + b) % (n : Int)) = some ((a + b) % n) := by rw [hk]; exact ixN_nat rfl hk2
        simp [vw_jk, at_0, at_1, at_2, at_3, at_4, ix_40, ix_41, ix_42, ix_43, boolsD_comp, intsD_comp, sh_int, sh_bool, sh_none, sh_str, ev_int, ev_bool, ev_str, ev_none, ev_ni, ev_in, uIfS, evT, ev, uRet, uRetO, uRetN, uDrop, uSet, uSetO, uMove, uFrz, uNext, uBreak, uCont, uApp, uIns, uPut, uPutA, uAug, uRaise, uVar, uC, uOp, uUn, uTru, uTst, uNot, uAnd, uOr, uAndV, uOrV, uNotV, uIf, uNil, uCons, argU, uTup, uLst, allD, onDs, onD, onT, onBool, oI, oIC, oAdd, oEq, oIsN, isN_none, isN_int, isN_bool, isN_str, isN_list, isN_tup, truD, oIx, uSl, uPart, uNoP, oSl, uCB, oLen, oList, oTuple, oInt, oAbs, oAll, oAny, oSum, onB, onI, uIs, uIs2, isT, uCall, uCallP, pick, vw, vw1, okU, okX, nolU, nol, nols, startU, kOf, kQ, kT, onL, uSeqI, uRng1, uRng2, rOk, uEnum, uRep, uTupRev, uYes, ugN, ugT2, wipeU, setU, uIfQ, uRetQ, uSetQ, uPutQ, ixC, szD, List.map_cons, List.map_nil, List.length_cons, List.length_nil, List.replicate, List.cons_append, List.nil_append, List.getElem?_cons_zero, List.getElem?_cons_succ, List.set_cons_zero, List.set_cons_succ, Option.map_some, Option.map_none, List.getD, Option.getD_some, if_true, true_and, and_true, Nat.reduceAdd, Nat.reduceSub, reduceIte, Bool.false_eq_true, Bool.not_true, Bool.not_false, hn0, tab_len, hix, tab_get hk2, hat2, hbt]
        refine ⟨h0, mulW (hgl a).2 (hgr b), ?_, ⟨some _, rfl⟩⟩
        rw [tab_add (g := fun j => jall n gl gr a j + jrow n gl gr a b j) (v := gl a * gr b) hk2]
        refine tab_congr fun j _ => ?_
        unfold jrow
        rw [sm_range_succ, Int.add_assoc, Int.mul_assoc]
      · obtain ⟨o6, rfl⟩ := hs3
        rw [rngD_len]
        simp
        refine ⟨?_, ⟨some _, rfl⟩, ⟨o6, rfl⟩⟩
        refine tab_congr fun j _ => ?_
        show _ = sm (List.range (a + 1)) _
        rw [sm_range_succ]
        rfl
    · next hpos =>
      have hz : gl a = 0 := by have := eg.1; omega
      refine ⟨tab_congr fun j _ => ?_, ⟨some _, rfl⟩, ⟨o6, rfl⟩⟩
      show _ = sm (List.range (a + 1)) _
      rw [sm_range_succ]
      have : jrow n gl gr a n j = 0 := by
        unfold jrow
        rw [hz, sm_congr (g := fun _ => 0) (fun y _ => Int.zero_mul _), sm_zero]
      rw [this, Int.add_zero]
      rfl
  · obtain ⟨o5, o6, rfl⟩ := hs2
    rw [rngD_len, hN2]
    simp [vw_jk, at_0, at_1, at_2, at_3, at_4, ix_40, ix_41, ix_42, ix_43, boolsD_comp, intsD_comp, sh_int, sh_bool, sh_none, sh_str, ev_int, ev_bool, ev_str, ev_none, ev_ni, ev_in, uIfS, evT, ev, uRet, uRetO, uRetN, uDrop, uSet, uSetO, uMove, uFrz, uNext, uBreak, uCont, uApp, uIns, uPut, uPutA, uAug, uRaise, uVar, uC, uOp, uUn, uTru, uTst, uNot, uAnd, uOr, uAndV, uOrV, uNotV, uIf, uNil, uCons, argU, uTup, uLst, allD, onDs, onD, onT, onBool, oI, oIC, oAdd, oEq, oIsN, isN_none, isN_int, isN_bool, isN_str, isN_list, isN_tup, truD, oIx, uSl, uPart, uNoP, oSl, uCB, oLen, oList, oTuple, oInt, oAbs, oAll, oAny, oSum, onB, onI, uIs, uIs2, isT, uCall, uCallP, pick, vw, vw1, okU, okX, nolU, nol, nols, startU, kOf, kQ, kT, onL, uSeqI, uRng1, uRng2, rOk, uEnum, uRep, uTupRev, uYes, ugN, ugT2, wipeU, setU, uIfQ, uRetQ, uSetQ, uPutQ, ixC, szD, List.map_cons, List.map_nil, List.length_cons, List.length_nil, List.replicate, List.cons_append, List.nil_append, List.getElem?_cons_zero, List.getElem?_cons_succ, List.set_cons_zero, List.set_cons_succ, Option.map_some, Option.map_none, List.getD, Option.getD_some, if_true, true_and, and_true, Nat.reduceAdd, Nat.reduceSub, reduceIte, Bool.false_eq_true, Bool.not_true, Bool.not_false]
    exact hp
theorem sc__law_halved : FnScope ["_law_many", "_law_spots", "_law_laps", "_law_counts", "_law_k", "_law_power", "_law_spot"] ["_law_many", "_law_spots", "_law_laps"] (defScope s__law_halved) := ⟨rfl, rfl, rfl, by decide +kernel, rfl, by decide +kernel, by decide +kernel⟩
theorem hs_nn (n : Nat) (l : List Nat) (j : Nat) : 0 ≤ hs n l j ∧ hs n l j ≤ l.length := by
  unfold hs
  induction l with
  | nil => simp [sm_nil]
  | cons x l ih =>
    rw [sm_cons, List.length_cons]
    have : 0 ≤ ind (x % n = j) ∧ ind (x % n = j) ≤ 1 := by unfold ind; split <;> omega
    omega
theorem jall_hs {n : Nat} (h0 : 0 < n) (a b : List Nat) (j : Nat) : jall n (hs n a) (hs n b) n j = hs n (pls a b) j := by
  rw [hs_pls h0]
  unfold jall jrow
  exact sm_congr fun x _ => sm_mul _ _ _
theorem hs_big {n : Nat} {fs : List Nat} {t : Nat} (hf : 1 ≤ fs.length) (hf2 : fs.length ≤ 12) (ht : t ≤ 64) (j : Nat) : 0 ≤ hs n (pw fs t) j ∧ (hs n (pw fs t) j).natAbs < 2 ^ 400 := by
  have h := hs_nn n (pw fs t) j
  rw [pw_len] at h
  have h1 : fs.length ^ t ≤ 12 ^ 64 := Nat.le_trans (Nat.pow_le_pow_left hf2 t) (Nat.pow_le_pow_right (by decide) ht)
  have h2 : (12 : Nat) ^ 64 < 2 ^ 400 := by decide
  omega
theorem pw_one (fs : List Nat) : pw fs 1 = fs := by
  show pls [0] fs = fs
  unfold pls
  simp
theorem join_call {n : Nat} {fs : List Nat} {a b : Nat} {P : U → Prop} {PX : Ex → Prop} (h0 : 0 < n) (hn : n ≤ 1000) (hf1 : 1 ≤ fs.length) (hf2 : fs.length ≤ 12) (ha : a ≤ 64) (hb : b ≤ 64) (h : P (.own (tab n (hs n (pw fs (a + b)))))) :
    fn__law_joined [.d (.int n), .d (.list (tab n (hs n (pw fs a)))), .d (.list (tab n (hs n (pw fs b))))] P PX := by
  refine ⟨n, _, _, rfl, h0, hn, fun x => hs_big hf1 hf2 ha x, fun x => (hs_big hf1 hf2 hb x).2, ?_⟩
  rw [show tab n (jall n (hs n (pw fs a)) (hs n (pw fs b)) n) = tab n (hs n (pw fs (a + b))) from tab_congr fun j _ => by rw [jall_hs h0, pw_add]]
  exact h
def eqL (i : Nat) (d : D) : List D := match d with
  | .int f => if (f == (i : Int)) = true then [.int f] else []
  | _ => []
theorem eqL_len (fs : List Nat) (i : Nat) : ((((natL fs).flatMap (eqL i)).length : Nat) : Int) = sm fs fun f => ind (f = i) := by
  induction fs with
  | nil => rfl
  | cons f fs ih =>
    show ((((PyData.int (f : Int) :: natL fs).flatMap (eqL i)).length : Nat) : Int) = _
    rw [List.flatMap_cons, List.length_append, sm_cons, ← ih]
    have : (((eqL i (.int (f : Int))).length : Nat) : Int) = ind (f = i) := by
      show (((if ((f : Int) == (i : Int)) = true then [(.int f : D)] else []).length : Nat) : Int) = _
      unfold ind
      by_cases c : f = i
      · simp [c]
      · rw [if_neg c]
        have : ¬ ((f : Int) = i) := by omega
        simp [this]
    omega
def fn__law_halved : Fn := fun as P PX => ∃ (n : Nat) (fs : List Nat) (t : Nat), as = [.d (.int n), .d (.list (natL fs)), .d (.int t)] ∧ 0 < n ∧ n ≤ 1000 ∧ 1 ≤ fs.length ∧ fs.length ≤ 12 ∧ t < 64 ∧ (∀ f ∈ fs, f < n) ∧ P (.d (.tuple (tab n (hs n (pw fs t)))))
theorem has__law_halved (T : Tk P K mg) {fd__law_joined : FuncData} (h__law_joined : Has P w K mg base 1 "_law_joined" s__law_joined ["_law_many", "_law_left", "_law_right"] fn__law_joined fd__law_joined) : ∃ fd, Has P w K mg base 2 "_law_halved" s__law_halved ["_law_many", "_law_spots", "_law_laps"] fn__law_halved fd := by
  obtain ⟨fd, F⟩ := T.f__law_halved
  have hb := F.binds (ps := ["_law_many", "_law_spots", "_law_laps"]) fun _ _ _ _ _ _ us hl => match us, hl with | [_, _, _], _ => rfl
  refine ⟨fd, T.g__law_halved, F.kp, F, hb, fnD F sc__law_halved (by decide) fun cdv A outer s H E hr => ⟨_, _, (dss_cons (ds_setLc (i := 3) false rfl sc__law_halved.nd rfl rfl rfl (own := [("_law_k", 4)]) (di_rng1 (dv 0) rfl T.n_range) (blk_of (by kernel_rfl)) (fun _ _ _ _ _ => (dg_name 4 sc__law_halved.nd)) (fun _ _ _ _ _ => dts_nil) (fun _ _ _ _ _ => (de_callTy dc_int rfl T.n_int bt_int (da_cons (de_cmp (do_eqk (KK := K) hr.units) (dv 4) de_int) da_nil))))
    (dss_cons (ds_setLc (i := 5) false rfl sc__law_halved.nd rfl rfl rfl (own := [("_law_k", 4)]) (di_rng1 (dv 0) rfl T.n_range) (blk_of (by kernel_rfl)) (fun _ _ _ _ _ => (dg_name 4 sc__law_halved.nd)) (fun _ _ _ _ _ => dts_nil) (fun _ _ _ _ _ => (de_callB (dc_lenk (KK := K)) rfl T.n_len bt_len (da_cons (de_lc rfl sc__law_halved.nd (own := [("_law_spot", 6)]) (di_seqk (KK := K) (dv 1)) (blk_of (by kernel_rfl)) (fun _ _ _ _ _ => (dg_name 6 sc__law_halved.nd)) (fun _ _ _ _ _ => (dts_one (dt_cmp (do_eqk (KK := K) hr.units) (dv 6) (dv 4)))) (fun _ _ _ _ _ => (dv 6))) da_nil))))
    (dss_cons (ds_for poD rfl (di_rng1 de_int rfl T.n_range) (dg_name 4 sc__law_halved.nd) (dss_cons (ds_if false (dt_cmp (do_eqk (KK := K) hr.units) (de_op do_mod (de_callTy dc_int rfl T.n_int bt_int (da_cons (dv 2) da_nil)) de_int) de_int) (dss_one (ds_set false 3 (de_own h__law_joined ⟨rfl, rfl, rfl, rfl, rfl⟩ (hr.mono (by decide)) rfl airD (da_cons (dv 0) (da_cons (dv 5) (da_cons (dv 3) da_nil)))) sc__law_halved.nd)) dss_nil)
    (dss_cons (ds_set false 2 (de_op do_fdiv (de_callTy dc_int rfl T.n_int bt_int (da_cons (dv 2) da_nil)) de_int) sc__law_halved.nd)
    (dss_one (ds_if false (dt_cmp do_gt (dv 2) de_int) (dss_one (ds_set false 5 (de_own h__law_joined ⟨rfl, rfl, rfl, rfl, rfl⟩ (hr.mono (by decide)) rfl airD (da_cons (dv 0) (da_cons (dv 5) (da_cons (dv 5) da_nil)))) sc__law_halved.nd)) dss_nil)))))
    (dss_one (ds_ret false (de_callTy (dc_tuplek (KK := K)) rfl T.n_tuple bt_tuple (da_cons (dv 3) da_nil))))))), ?_⟩⟩
  rintro as Q PX hl ⟨n, fs, t, rfl, h0, hn, hf1, hf2, ht, hfn, hp⟩
  refine i_seq fun N hN => ?_
  simp [vw_jk, at_0, at_1, at_2, at_3, at_4, ix_40, ix_41, ix_42, ix_43, boolsD_comp, intsD_comp, sh_int, sh_bool, sh_none, sh_str, ev_int, ev_bool, ev_str, ev_none, ev_ni, ev_in, uIfS, evT, ev, uRet, uRetO, uRetN, uDrop, uSet, uSetO, uMove, uFrz, uNext, uBreak, uCont, uApp, uIns, uPut, uPutA, uAug, uRaise, uVar, uC, uOp, uUn, uTru, uTst, uNot, uAnd, uOr, uAndV, uOrV, uNotV, uIf, uNil, uCons, argU, uTup, uLst, allD, onDs, onD, onT, onBool, oI, oIC, oAdd, oEq, oIsN, isN_none, isN_int, isN_bool, isN_str, isN_list, isN_tup, truD, oIx, uSl, uPart, uNoP, oSl, uCB, oLen, oList, oTuple, oInt, oAbs, oAll, oAny, oSum, onB, onI, uIs, uIs2, isT, uCall, uCallP, pick, vw, vw1, okU, okX, nolU, nol, nols, startU, kOf, kQ, kT, onL, uSeqI, uRng1, uRng2, rOk, uEnum, uRep, uTupRev, uYes, ugN, ugT2, wipeU, setU, uIfQ, uRetQ, uSetQ, uPutQ, ixC, szD, List.map_cons, List.map_nil, List.length_cons, List.length_nil, List.replicate, List.cons_append, List.nil_append, List.getElem?_cons_zero, List.getElem?_cons_succ, List.set_cons_zero, List.set_cons_succ, Option.map_some, Option.map_none, List.getD, Option.getD_some, if_true, true_and, and_true, Nat.reduceAdd, Nat.reduceSub, reduceIte, Bool.false_eq_true, Bool.not_true, Bool.not_false]
  refine i_lc ?_
  simp [vw_jk, at_0, at_1, at_2, at_3, at_4, ix_40, ix_41, ix_42, ix_43, boolsD_comp, intsD_comp, sh_int, sh_bool, sh_none, sh_str, ev_int, ev_bool, ev_str, ev_none, ev_ni, ev_in, uIfS, evT, ev, uRet, uRetO, uRetN, uDrop, uSet, uSetO, uMove, uFrz, uNext, uBreak, uCont, uApp, uIns, uPut, uPutA, uAug, uRaise, uVar, uC, uOp, uUn, uTru, uTst, uNot, uAnd, uOr, uAndV, uOrV, uNotV, uIf, uNil, uCons, argU, uTup, uLst, allD, onDs, onD, onT, onBool, oI, oIC, oAdd, oEq, oIsN, isN_none, isN_int, isN_bool, isN_str, isN_list, isN_tup, truD, oIx, uSl, uPart, uNoP, oSl, uCB, oLen, oList, oTuple, oInt, oAbs, oAll, oAny, oSum, onB, onI, uIs, uIs2, isT, uCall, uCallP, pick, vw, vw1, okU, okX, nolU, nol, nols, startU, kOf, kQ, kT, onL, uSeqI, uRng1, uRng2, rOk, uEnum, uRep, uTupRev, uYes, ugN, ugT2, wipeU, setU, uIfQ, uRetQ, uSetQ, uPutQ, ixC, szD, List.map_cons, List.map_nil, List.length_cons, List.length_nil, List.replicate, List.cons_append, List.nil_append, List.getElem?_cons_zero, List.getElem?_cons_succ, List.set_cons_zero, List.set_cons_succ, Option.map_some, Option.map_none, List.getD, Option.getD_some, if_true, true_and, and_true, Nat.reduceAdd, Nat.reduceSub, reduceIte, Bool.false_eq_true, Bool.not_true, Bool.not_false]
  refine ⟨by omega, ?_⟩
  refine lc_fun (fun d => match d with | .int k => [.int (if k = 0 then 1 else 0)] | _ => []) (by rw [rngD_len]; exact lt_line (by omega)) (fun i d e => ?_) ?_
  · obtain ⟨rfl, hi⟩ := get_rngD e
    refine ⟨_, rfl, by simp, fun acc J hJ => ?_⟩
    have hJ2 : J (acc ++ [.int (if (0 : Int) + (i : Int) = 0 then 1 else 0)]) := hJ
    by_cases c : i = 0
    · simp [vw_jk, at_0, at_1, at_2, at_3, at_4, ix_40, ix_41, ix_42, ix_43, boolsD_comp, intsD_comp, sh_int, sh_bool, sh_none, sh_str, ev_int, ev_bool, ev_str, ev_none, ev_ni, ev_in, uIfS, evT, ev, uRet, uRetO, uRetN, uDrop, uSet, uSetO, uMove, uFrz, uNext, uBreak, uCont, uApp, uIns, uPut, uPutA, uAug, uRaise, uVar, uC, uOp, uUn, uTru, uTst, uNot, uAnd, uOr, uAndV, uOrV, uNotV, uIf, uNil, uCons, argU, uTup, uLst, allD, onDs, onD, onT, onBool, oI, oIC, oAdd, oEq, oIsN, isN_none, isN_int, isN_bool, isN_str, isN_list, isN_tup, truD, oIx, uSl, uPart, uNoP, oSl, uCB, oLen, oList, oTuple, oInt, oAbs, oAll, oAny, oSum, onB, onI, uIs, uIs2, isT, uCall, uCallP, pick, vw, vw1, okU, okX, nolU, nol, nols, startU, kOf, kQ, kT, onL, uSeqI, uRng1, uRng2, rOk, uEnum, uRep, uTupRev, uYes, ugN, ugT2, wipeU, setU, uIfQ, uRetQ, uSetQ, uPutQ, ixC, szD, List.map_cons, List.map_nil, List.length_cons, List.length_nil, List.replicate, List.cons_append, List.nil_append, List.getElem?_cons_zero, List.getElem?_cons_succ, List.set_cons_zero, List.set_cons_succ, Option.map_some, Option.map_none, List.getD, Option.getD_some, if_true, true_and, and_true, Nat.reduceAdd, Nat.reduceSub, reduceIte, Bool.false_eq_true, Bool.not_true, Bool.not_false, c] at hJ2 ⊢; exact hJ2
    · simp [vw_jk, at_0, at_1, at_2, at_3, at_4, ix_40, ix_41, ix_42, ix_43, boolsD_comp, intsD_comp, sh_int, sh_bool, sh_none, sh_str, ev_int, ev_bool, ev_str, ev_none, ev_ni, ev_in, uIfS, evT, ev, uRet, uRetO, uRetN, uDrop, uSet, uSetO, uMove, uFrz, uNext, uBreak, uCont, uApp, uIns, uPut, uPutA, uAug, uRaise, uVar, uC, uOp, uUn, uTru, uTst, uNot, uAnd, uOr, uAndV, uOrV, uNotV, uIf, uNil, uCons, argU, uTup, uLst, allD, onDs, onD, onT, onBool, oI, oIC, oAdd, oEq, oIsN, isN_none, isN_int, isN_bool, isN_str, isN_list, isN_tup, truD, oIx, uSl, uPart, uNoP, oSl, uCB, oLen, oList, oTuple, oInt, oAbs, oAll, oAny, oSum, onB, onI, uIs, uIs2, isT, uCall, uCallP, pick, vw, vw1, okU, okX, nolU, nol, nols, startU, kOf, kQ, kT, onL, uSeqI, uRng1, uRng2, rOk, uEnum, uRep, uTupRev, uYes, ugN, ugT2, wipeU, setU, uIfQ, uRetQ, uSetQ, uPutQ, ixC, szD, List.map_cons, List.map_nil, List.length_cons, List.length_nil, List.replicate, List.cons_append, List.nil_append, List.getElem?_cons_zero, List.getElem?_cons_succ, List.set_cons_zero, List.set_cons_succ, Option.map_some, Option.map_none, List.getD, Option.getD_some, if_true, true_and, and_true, Nat.reduceAdd, Nat.reduceSub, reduceIte, Bool.false_eq_true, Bool.not_true, Bool.not_false, c] at hJ2 ⊢; exact hJ2
  rw [show (rngD 0 n).flatMap (fun (d : D) => match d with | .int k => [(.int (if k = 0 then 1 else 0) : D)] | _ => []) = tab n (hs n (pw fs 0)) from by
    rw [rngD_flat]
    rw [show (fun (i : Nat) => (match (PyData.int (i : Int) : D) with | .int k => [(.int (if k = 0 then 1 else 0) : D)] | _ => [])) = fun (i : Nat) => [(.int (if (i : Int) = 0 then 1 else 0) : D)] from rfl, flat_one]
    refine tab_congr fun j _ => ?_
    show _ = sm [0] _
    rw [sm_cons, sm_nil, Nat.zero_mod]
    unfold ind
    by_cases c : j = 0
    · subst c; rfl
    · rw [if_neg (by omega), if_neg (fun z => c z.symm)]; rfl]
  simp [vw_jk, at_0, at_1, at_2, at_3, at_4, ix_40, ix_41, ix_42, ix_43, boolsD_comp, intsD_comp, sh_int, sh_bool, sh_none, sh_str, ev_int, ev_bool, ev_str, ev_none, ev_ni, ev_in, uIfS, evT, ev, uRet, uRetO, uRetN, uDrop, uSet, uSetO, uMove, uFrz, uNext, uBreak, uCont, uApp, uIns, uPut, uPutA, uAug, uRaise, uVar, uC, uOp, uUn, uTru, uTst, uNot, uAnd, uOr, uAndV, uOrV, uNotV, uIf, uNil, uCons, argU, uTup, uLst, allD, onDs, onD, onT, onBool, oI, oIC, oAdd, oEq, oIsN, isN_none, isN_int, isN_bool, isN_str, isN_list, isN_tup, truD, oIx, uSl, uPart, uNoP, oSl, uCB, oLen, oList, oTuple, oInt, oAbs, oAll, oAny, oSum, onB, onI, uIs, uIs2, isT, uCall, uCallP, pick, vw, vw1, okU, okX, nolU, nol, nols, startU, kOf, kQ, kT, onL, uSeqI, uRng1, uRng2, rOk, uEnum, uRep, uTupRev, uYes, ugN, ugT2, wipeU, setU, uIfQ, uRetQ, uSetQ, uPutQ, ixC, szD, List.map_cons, List.map_nil, List.length_cons, List.length_nil, List.replicate, List.cons_append, List.nil_append, List.getElem?_cons_zero, List.getElem?_cons_succ, List.set_cons_zero, List.set_cons_succ, Option.map_some, Option.map_none, List.getD, Option.getD_some, if_true, true_and, and_true, Nat.reduceAdd, Nat.reduceSub, reduceIte, Bool.false_eq_true, Bool.not_true, Bool.not_false]
  rw [hN]
  refine i_seq fun N2 hN2 => ?_
  simp [vw_jk, at_0, at_1, at_2, at_3, at_4, ix_40, ix_41, ix_42, ix_43, boolsD_comp, intsD_comp, sh_int, sh_bool, sh_none, sh_str, ev_int, ev_bool, ev_str, ev_none, ev_ni, ev_in, uIfS, evT, ev, uRet, uRetO, uRetN, uDrop, uSet, uSetO, uMove, uFrz, uNext, uBreak, uCont, uApp, uIns, uPut, uPutA, uAug, uRaise, uVar, uC, uOp, uUn, uTru, uTst, uNot, uAnd, uOr, uAndV, uOrV, uNotV, uIf, uNil, uCons, argU, uTup, uLst, allD, onDs, onD, onT, onBool, oI, oIC, oAdd, oEq, oIsN, isN_none, isN_int, isN_bool, isN_str, isN_list, isN_tup, truD, oIx, uSl, uPart, uNoP, oSl, uCB, oLen, oList, oTuple, oInt, oAbs, oAll, oAny, oSum, onB, onI, uIs, uIs2, isT, uCall, uCallP, pick, vw, vw1, okU, okX, nolU, nol, nols, startU, kOf, kQ, kT, onL, uSeqI, uRng1, uRng2, rOk, uEnum, uRep, uTupRev, uYes, ugN, ugT2, wipeU, setU, uIfQ, uRetQ, uSetQ, uPutQ, ixC, szD, List.map_cons, List.map_nil, List.length_cons, List.length_nil, List.replicate, List.cons_append, List.nil_append, List.getElem?_cons_zero, List.getElem?_cons_succ, List.set_cons_zero, List.set_cons_succ, Option.map_some, Option.map_none, List.getD, Option.getD_some, if_true, true_and, and_true, Nat.reduceAdd, Nat.reduceSub, reduceIte, Bool.false_eq_true, Bool.not_true, Bool.not_false]
  refine i_lc ?_
  simp [vw_jk, at_0, at_1, at_2, at_3, at_4, ix_40, ix_41, ix_42, ix_43, boolsD_comp, intsD_comp, sh_int, sh_bool, sh_none, sh_str, ev_int, ev_bool, ev_str, ev_none, ev_ni, ev_in, uIfS, evT, ev, uRet, uRetO, uRetN, uDrop, uSet, uSetO, uMove, uFrz, uNext, uBreak, uCont, uApp, uIns, uPut, uPutA, uAug, uRaise, uVar, uC, uOp, uUn, uTru, uTst, uNot, uAnd, uOr, uAndV, uOrV, uNotV, uIf, uNil, uCons, argU, uTup, uLst, allD, onDs, onD, onT, onBool, oI, oIC, oAdd, oEq, oIsN, isN_none, isN_int, isN_bool, isN_str, isN_list, isN_tup, truD, oIx, uSl, uPart, uNoP, oSl, uCB, oLen, oList, oTuple, oInt, oAbs, oAll, oAny, oSum, onB, onI, uIs, uIs2, isT, uCall, uCallP, pick, vw, vw1, okU, okX, nolU, nol, nols, startU, kOf, kQ, kT, onL, uSeqI, uRng1, uRng2, rOk, uEnum, uRep, uTupRev, uYes, ugN, ugT2, wipeU, setU, uIfQ, uRetQ, uSetQ, uPutQ, ixC, szD, List.map_cons, List.map_nil, List.length_cons, List.length_nil, List.replicate, List.cons_append, List.nil_append, List.getElem?_cons_zero, List.getElem?_cons_succ, List.set_cons_zero, List.set_cons_succ, Option.map_some, Option.map_none, List.getD, Option.getD_some, if_true, true_and, and_true, Nat.reduceAdd, Nat.reduceSub, reduceIte, Bool.false_eq_true, Bool.not_true, Bool.not_false]
  refine ⟨by omega, ?_⟩
  refine lc_fun (fun d => match d with | .int k => [.int (sm fs fun f => ind (f = k.toNat))] | _ => []) (by rw [rngD_len]; exact lt_line (by omega)) (fun i d e => ?_) ?_
  · obtain ⟨rfl, hi⟩ := get_rngD e
    refine ⟨_, rfl, by simp, fun acc J hJ => ?_⟩
    simp [vw_jk, at_0, at_1, at_2, at_3, at_4, ix_40, ix_41, ix_42, ix_43, boolsD_comp, intsD_comp, sh_int, sh_bool, sh_none, sh_str, ev_int, ev_bool, ev_str, ev_none, ev_ni, ev_in, uIfS, evT, ev, uRet, uRetO, uRetN, uDrop, uSet, uSetO, uMove, uFrz, uNext, uBreak, uCont, uApp, uIns, uPut, uPutA, uAug, uRaise, uVar, uC, uOp, uUn, uTru, uTst, uNot, uAnd, uOr, uAndV, uOrV, uNotV, uIf, uNil, uCons, argU, uTup, uLst, allD, onDs, onD, onT, onBool, oI, oIC, oAdd, oEq, oIsN, isN_none, isN_int, isN_bool, isN_str, isN_list, isN_tup, truD, oIx, uSl, uPart, uNoP, oSl, uCB, oLen, oList, oTuple, oInt, oAbs, oAll, oAny, oSum, onB, onI, uIs, uIs2, isT, uCall, uCallP, pick, vw, vw1, okU, okX, nolU, nol, nols, startU, kOf, kQ, kT, onL, uSeqI, uRng1, uRng2, rOk, uEnum, uRep, uTupRev, uYes, ugN, ugT2, wipeU, setU, uIfQ, uRetQ, uSetQ, uPutQ, ixC, szD, List.map_cons, List.map_nil, List.length_cons, List.length_nil, List.replicate, List.cons_append, List.nil_append, List.getElem?_cons_zero, List.getElem?_cons_succ, List.set_cons_zero, List.set_cons_succ, Option.map_some, Option.map_none, List.getD, Option.getD_some, if_true, true_and, and_true, Nat.reduceAdd, Nat.reduceSub, reduceIte, Bool.false_eq_true, Bool.not_true, Bool.not_false]
    refine i_lc ?_
    simp [vw_jk, at_0, at_1, at_2, at_3, at_4, ix_40, ix_41, ix_42, ix_43, boolsD_comp, intsD_comp, sh_int, sh_bool, sh_none, sh_str, ev_int, ev_bool, ev_str, ev_none, ev_ni, ev_in, uIfS, evT, ev, uRet, uRetO, uRetN, uDrop, uSet, uSetO, uMove, uFrz, uNext, uBreak, uCont, uApp, uIns, uPut, uPutA, uAug, uRaise, uVar, uC, uOp, uUn, uTru, uTst, uNot, uAnd, uOr, uAndV, uOrV, uNotV, uIf, uNil, uCons, argU, uTup, uLst, allD, onDs, onD, onT, onBool, oI, oIC, oAdd, oEq, oIsN, isN_none, isN_int, isN_bool, isN_str, isN_list, isN_tup, truD, oIx, uSl, uPart, uNoP, oSl, uCB, oLen, oList, oTuple, oInt, oAbs, oAll, oAny, oSum, onB, onI, uIs, uIs2, isT, uCall, uCallP, pick, vw, vw1, okU, okX, nolU, nol, nols, startU, kOf, kQ, kT, onL, uSeqI, uRng1, uRng2, rOk, uEnum, uRep, uTupRev, uYes, ugN, ugT2, wipeU, setU, uIfQ, uRetQ, uSetQ, uPutQ, ixC, szD, List.map_cons, List.map_nil, List.length_cons, List.length_nil, List.replicate, List.cons_append, List.nil_append, List.getElem?_cons_zero, List.getElem?_cons_succ, List.set_cons_zero, List.set_cons_succ, Option.map_some, Option.map_none, List.getD, Option.getD_some, if_true, true_and, and_true, Nat.reduceAdd, Nat.reduceSub, reduceIte, Bool.false_eq_true, Bool.not_true, Bool.not_false]
    refine lc_fun (eqL i) (by rw [natL_len]; exact lt_line (by omega)) (fun a d e => ?_) ?_
    · obtain ⟨f, rfl, _⟩ := natL_get e
      refine ⟨_, rfl, by simp, fun acc2 J2 hJ2 => ?_⟩
      have hJ3 : J2 (acc2 ++ if ((f : Int) == (i : Int)) = true then [.int f] else []) := hJ2
      simp [vw_jk, at_0, at_1, at_2, at_3, at_4, ix_40, ix_41, ix_42, ix_43, boolsD_comp, intsD_comp, sh_int, sh_bool, sh_none, sh_str, ev_int, ev_bool, ev_str, ev_none, ev_ni, ev_in, uIfS, evT, ev, uRet, uRetO, uRetN, uDrop, uSet, uSetO, uMove, uFrz, uNext, uBreak, uCont, uApp, uIns, uPut, uPutA, uAug, uRaise, uVar, uC, uOp, uUn, uTru, uTst, uNot, uAnd, uOr, uAndV, uOrV, uNotV, uIf, uNil, uCons, argU, uTup, uLst, allD, onDs, onD, onT, onBool, oI, oIC, oAdd, oEq, oIsN, isN_none, isN_int, isN_bool, isN_str, isN_list, isN_tup, truD, oIx, uSl, uPart, uNoP, oSl, uCB, oLen, oList, oTuple, oInt, oAbs, oAll, oAny, oSum, onB, onI, uIs, uIs2, isT, uCall, uCallP, pick, vw, vw1, okU, okX, nolU, nol, nols, startU, kOf, kQ, kT, onL, uSeqI, uRng1, uRng2, rOk, uEnum, uRep, uTupRev, uYes, ugN, ugT2, wipeU, setU, uIfQ, uRetQ, uSetQ, uPutQ, ixC, szD, List.map_cons, List.map_nil, List.length_cons, List.length_nil, List.replicate, List.cons_append, List.nil_append, List.getElem?_cons_zero, List.getElem?_cons_succ, List.set_cons_zero, List.set_cons_succ, Option.map_some, Option.map_none, List.getD, Option.getD_some, if_true, true_and, and_true, Nat.reduceAdd, Nat.reduceSub, reduceIte, Bool.false_eq_true, Bool.not_true, Bool.not_false] at hJ3 ⊢
      by_cases c : f = i
      · simp [c] at hJ3 ⊢; exact hJ3
      · have c2 : ¬ ((f : Int) = i) := by omega
        simp [c, c2] at hJ3 ⊢; exact hJ3
    · have hJ2 : J (acc ++ [.int (sm fs fun f => ind (f = (0 + (i : Int)).toNat))]) := hJ
      rw [show (0 + (i : Int)).toNat = i from by omega, ← eqL_len] at hJ2
      simp only [vw_jk, at_0, at_1, at_2, at_3, at_4, ix_40, ix_41, ix_42, ix_43, boolsD_comp, intsD_comp, sh_int, sh_bool, sh_none, sh_str, ev_int, ev_bool, ev_str, ev_none, ev_ni, ev_in, uIfS, evT, ev, uRet, uRetO, uRetN, uDrop, uSet, uSetO, uMove, uFrz, uNext, uBreak, uCont, uApp, uIns, uPut, uPutA, uAug, uRaise, uVar, uC, uOp, uUn, uTru, uTst, uNot, uAnd, uOr, uAndV, uOrV, uNotV, uIf, uNil, uCons, argU, uTup, uLst, allD, onDs, onD, onT, onBool, oI, oIC, oAdd, oEq, oIsN, isN_none, isN_int, isN_bool, isN_str, isN_list, isN_tup, truD, oIx, uSl, uPart, uNoP, oSl, uCB, oLen, oList, oTuple, oInt, oAbs, oAll, oAny, oSum, onB, onI, uIs, uIs2, isT, uCall, uCallP, pick, vw, vw1, okU, okX, nolU, nol, nols, startU, kOf, kQ, kT, onL, uSeqI, uRng1, uRng2, rOk, uEnum, uRep, uTupRev, uYes, ugN, ugT2, wipeU, setU, uIfQ, uRetQ, uSetQ, uPutQ, ixC, szD, List.map_cons, List.map_nil, List.length_cons, List.length_nil, List.replicate, List.cons_append, List.nil_append, List.getElem?_cons_zero, List.getElem?_cons_succ, List.set_cons_zero, List.set_cons_succ, Option.map_some, Option.map_none, List.getD, Option.getD_some, if_true, true_and, and_true, Nat.reduceAdd, Nat.reduceSub, reduceIte, Bool.false_eq_true, Bool.not_true, Bool.not_false]
      exact hJ2
  rw [show (rngD 0 n).flatMap (fun (d : D) => match d with | .int k => [(.int (sm fs fun f => ind (f = k.toNat)) : D)] | _ => []) = tab n (hs n (pw fs 1)) from by
    rw [rngD_flat]
    rw [show (fun (i : Nat) => (match (PyData.int (i : Int) : D) with | .int k => [(.int (sm fs fun f => ind (f = k.toNat)) : D)] | _ => [])) = fun (i : Nat) => [(.int (sm fs fun f => ind (f = i)) : D)] from rfl, flat_one, pw_one]
    refine tab_congr fun j _ => sm_congr fun f hf => ?_
    rw [Nat.mod_eq_of_lt (hfn f hf)]]
  simp only [vw_jk, at_0, at_1, at_2, at_3, at_4, ix_40, ix_41, ix_42, ix_43, boolsD_comp, intsD_comp, sh_int, sh_bool, sh_none, sh_str, ev_int, ev_bool, ev_str, ev_none, ev_ni, ev_in, uIfS, evT, ev, uRet, uRetO, uRetN, uDrop, uSet, uSetO, uMove, uFrz, uNext, uBreak, uCont, uApp, uIns, uPut, uPutA, uAug, uRaise, uVar, uC, uOp, uUn, uTru, uTst, uNot, uAnd, uOr, uAndV, uOrV, uNotV, uIf, uNil, uCons, argU, uTup, uLst, allD, onDs, onD, onT, onBool, oI, oIC, oAdd, oEq, oIsN, isN_none, isN_int, isN_bool, isN_str, isN_list, isN_tup, truD, oIx, uSl, uPart, uNoP, oSl, uCB, oLen, oList, oTuple, oInt, oAbs, oAll, oAny, oSum, onB, onI, uIs, uIs2, isT, uCall, uCallP, pick, vw, vw1, okU, okX, nolU, nol, nols, startU, kOf, kQ, kT, onL, uSeqI, uRng1, uRng2, rOk, uEnum, uRep, uTupRev, uYes, ugN, ugT2, wipeU, setU, uIfQ, uRetQ, uSetQ, uPutQ, ixC, szD, List.map_cons, List.map_nil, List.length_cons, List.length_nil, List.replicate, List.cons_append, List.nil_append, List.getElem?_cons_zero, List.getElem?_cons_succ, List.set_cons_zero, List.set_cons_succ, Option.map_some, Option.map_none, List.getD, Option.getD_some, if_true, true_and, and_true, Nat.reduceAdd, Nat.reduceSub, reduceIte, Bool.false_eq_true, Bool.not_true, Bool.not_false]
  rw [hN2]
  refine i_seq fun N3 hN3 => ?_
  refine i_for ?_
  simp [vw_jk, at_0, at_1, at_2, at_3, at_4, ix_40, ix_41, ix_42, ix_43, boolsD_comp, intsD_comp, sh_int, sh_bool, sh_none, sh_str, ev_int, ev_bool, ev_str, ev_none, ev_ni, ev_in, uIfS, evT, ev, uRet, uRetO, uRetN, uDrop, uSet, uSetO, uMove, uFrz, uNext, uBreak, uCont, uApp, uIns, uPut, uPutA, uAug, uRaise, uVar, uC, uOp, uUn, uTru, uTst, uNot, uAnd, uOr, uAndV, uOrV, uNotV, uIf, uNil, uCons, argU, uTup, uLst, allD, onDs, onD, onT, onBool, oI, oIC, oAdd, oEq, oIsN, isN_none, isN_int, isN_bool, isN_str, isN_list, isN_tup, truD, oIx, uSl, uPart, uNoP, oSl, uCB, oLen, oList, oTuple, oInt, oAbs, oAll, oAny, oSum, onB, onI, uIs, uIs2, isT, uCall, uCallP, pick, vw, vw1, okU, okX, nolU, nol, nols, startU, kOf, kQ, kT, onL, uSeqI, uRng1, uRng2, rOk, uEnum, uRep, uTupRev, uYes, ugN, ugT2, wipeU, setU, uIfQ, uRetQ, uSetQ, uPutQ, ixC, szD, List.map_cons, List.map_nil, List.length_cons, List.length_nil, List.replicate, List.cons_append, List.nil_append, List.getElem?_cons_zero, List.getElem?_cons_succ, List.set_cons_zero, List.set_cons_succ, Option.map_some, Option.map_none, List.getD, Option.getD_some, if_true, true_and, and_true, Nat.reduceAdd, Nat.reduceSub, reduceIte, Bool.false_eq_true, Bool.not_true, Bool.not_false]
  refine ⟨fun i s' => ∃ (o4 : Option D) (q : Nat) (z : Int), s' = [some (.d (.int n)), some (.d (.list (natL fs))), some (.d (.int z)), some (.d (.list (tab n (hs n (pw fs (t % 2 ^ i)))))), jk o4, some (.d (.list (tab n (hs n (pw fs q))))), none] ∧ q ≤ 32 ∧ (0 < t / 2 ^ i → q = 2 ^ i) ∧ z = ((t / 2 ^ i : Nat) : Int), ⟨none, 1, (t : Int), ?_, by decide, fun _ => rfl, by simp⟩, fun i d s' e hs2 => ?_, fun s' hs2 => ?_⟩
  · rw [Nat.pow_zero, Nat.mod_one]
    rfl
  · obtain ⟨o4, q, z, rfl, hq, hq2, hz⟩ := hs2
    have hi := (List.getElem?_eq_some_iff.mp e).1
    rw [rngD_len] at hi
    have hi6 : i < 6 := hi
    have e1 : t / 2 ^ (i + 1) = t / 2 ^ i / 2 := by rw [Nat.pow_succ, Nat.div_div_eq_div_mul]
    have e2 : t % 2 ^ (i + 1) = t % 2 ^ i + 2 ^ i * (t / 2 ^ i % 2) := by rw [Nat.pow_succ, Nat.mod_mul]
    have hc : t % 2 ^ i ≤ 63 := Nat.le_trans (Nat.mod_le _ _) (by omega)
    have hpi : 2 ^ i ≤ 32 := Nat.le_trans (Nat.pow_le_pow_right (by decide) (by omega : i ≤ 5)) (by decide)
    have hp5 : 2 ^ (i + 1) = 2 ^ i + 2 ^ i := by rw [Nat.pow_succ]; omega
    refine i_cut (fun s' => s' = [some (.d (.int n)), some (.d (.list (natL fs))), some (.d (.int z)), some (.d (.list (tab n (hs n (pw fs (t % 2 ^ (i + 1))))))), some (.d d), some (.d (.list (tab n (hs n (pw fs q))))), none]) ?_ ?_
    · rintro s' rfl
      refine i_seq fun N4 hN4 => ?_
      simp [vw_jk, at_0, at_1, at_2, at_3, at_4, ix_40, ix_41, ix_42, ix_43, boolsD_comp, intsD_comp, sh_int, sh_bool, sh_none, sh_str, ev_int, ev_bool, ev_str, ev_none, ev_ni, ev_in, uIfS, evT, ev, uRet, uRetO, uRetN, uDrop, uSet, uSetO, uMove, uFrz, uNext, uBreak, uCont, uApp, uIns, uPut, uPutA, uAug, uRaise, uVar, uC, uOp, uUn, uTru, uTst, uNot, uAnd, uOr, uAndV, uOrV, uNotV, uIf, uNil, uCons, argU, uTup, uLst, allD, onDs, onD, onT, onBool, oI, oIC, oAdd, oEq, oIsN, isN_none, isN_int, isN_bool, isN_str, isN_list, isN_tup, truD, oIx, uSl, uPart, uNoP, oSl, uCB, oLen, oList, oTuple, oInt, oAbs, oAll, oAny, oSum, onB, onI, uIs, uIs2, isT, uCall, uCallP, pick, vw, vw1, okU, okX, nolU, nol, nols, startU, kOf, kQ, kT, onL, uSeqI, uRng1, uRng2, rOk, uEnum, uRep, uTupRev, uYes, ugN, ugT2, wipeU, setU, uIfQ, uRetQ, uSetQ, uPutQ, ixC, szD, List.map_cons, List.map_nil, List.length_cons, List.length_nil, List.replicate, List.cons_append, List.nil_append, List.getElem?_cons_zero, List.getElem?_cons_succ, List.set_cons_zero, List.set_cons_succ, Option.map_some, Option.map_none, List.getD, Option.getD_some, if_true, true_and, and_true, Nat.reduceAdd, Nat.reduceSub, reduceIte, Bool.false_eq_true, Bool.not_true, Bool.not_false]
      refine ⟨divS (by decide) (by decide), ?_⟩
      rw [hN4]
      have hz2 : z / 2 = ((t / 2 ^ (i + 1) : Nat) : Int) := by rw [e1, hz]; push_cast; rfl
      simp [vw_jk, at_0, at_1, at_2, at_3, at_4, ix_40, ix_41, ix_42, ix_43, boolsD_comp, intsD_comp, sh_int, sh_bool, sh_none, sh_str, ev_int, ev_bool, ev_str, ev_none, ev_ni, ev_in, uIfS, evT, ev, uRet, uRetO, uRetN, uDrop, uSet, uSetO, uMove, uFrz, uNext, uBreak, uCont, uApp, uIns, uPut, uPutA, uAug, uRaise, uVar, uC, uOp, uUn, uTru, uTst, uNot, uAnd, uOr, uAndV, uOrV, uNotV, uIf, uNil, uCons, argU, uTup, uLst, allD, onDs, onD, onT, onBool, oI, oIC, oAdd, oEq, oIsN, isN_none, isN_int, isN_bool, isN_str, isN_list, isN_tup, truD, oIx, uSl, uPart, uNoP, oSl, uCB, oLen, oList, oTuple, oInt, oAbs, oAll, oAny, oSum, onB, onI, uIs, uIs2, isT, uCall, uCallP, pick, vw, vw1, okU, okX, nolU, nol, nols, startU, kOf, kQ, kT, onL, uSeqI, uRng1, uRng2, rOk, uEnum, uRep, uTupRev, uYes, ugN, ugT2, wipeU, setU, uIfQ, uRetQ, uSetQ, uPutQ, ixC, szD, List.map_cons, List.map_nil, List.length_cons, List.length_nil, List.replicate, List.cons_append, List.nil_append, List.getElem?_cons_zero, List.getElem?_cons_succ, List.set_cons_zero, List.set_cons_succ, Option.map_some, Option.map_none, List.getD, Option.getD_some, if_true, true_and, and_true, Nat.reduceAdd, Nat.reduceSub, reduceIte, Bool.false_eq_true, Bool.not_true, Bool.not_false]
      split
      · next hpos =>
        have hL : 0 < t / 2 ^ (i + 1) := by omega
        have hL2 : 0 < t / 2 ^ i := by omega
        have hq3 := hq2 hL2
        subst hq3
        have h5 : i < 5 := by
          rcases Nat.lt_or_ge i 5 with c | c
          · exact c
          · have : i = 5 := by omega
            subst this
            have : t / 2 ^ 6 = 0 := Nat.div_eq_of_lt (by omega)
            omega
        have hp6 : 2 ^ (i + 1) ≤ 32 := Nat.le_trans (Nat.pow_le_pow_right (by decide) (by omega : i + 1 ≤ 5)) (by decide)
        refine join_call h0 hn hf1 hf2 (by omega) (by omega) ?_
        refine ⟨some d, 2 ^ i + 2 ^ i, z / 2, ⟨rfl, rfl, rfl⟩, by omega, fun _ _ => hp5.symm, hz2⟩
      · next hpos => exact ⟨some d, q, z / 2, ⟨rfl, rfl, rfl⟩, hq, fun w0 w => absurd (Nat.div_pos w w0) (by omega), hz2⟩
    · intro L hL
      simp [vw_jk, at_0, at_1, at_2, at_3, at_4, ix_40, ix_41, ix_42, ix_43, boolsD_comp, intsD_comp, sh_int, sh_bool, sh_none, sh_str, ev_int, ev_bool, ev_str, ev_none, ev_ni, ev_in, uIfS, evT, ev, uRet, uRetO, uRetN, uDrop, uSet, uSetO, uMove, uFrz, uNext, uBreak, uCont, uApp, uIns, uPut, uPutA, uAug, uRaise, uVar, uC, uOp, uUn, uTru, uTst, uNot, uAnd, uOr, uAndV, uOrV, uNotV, uIf, uNil, uCons, argU, uTup, uLst, allD, onDs, onD, onT, onBool, oI, oIC, oAdd, oEq, oIsN, isN_none, isN_int, isN_bool, isN_str, isN_list, isN_tup, truD, oIx, uSl, uPart, uNoP, oSl, uCB, oLen, oList, oTuple, oInt, oAbs, oAll, oAny, oSum, onB, onI, uIs, uIs2, isT, uCall, uCallP, pick, vw, vw1, okU, okX, nolU, nol, nols, startU, kOf, kQ, kT, onL, uSeqI, uRng1, uRng2, rOk, uEnum, uRep, uTupRev, uYes, ugN, ugT2, wipeU, setU, uIfQ, uRetQ, uSetQ, uPutQ, ixC, szD, List.map_cons, List.map_nil, List.length_cons, List.length_nil, List.replicate, List.cons_append, List.nil_append, List.getElem?_cons_zero, List.getElem?_cons_succ, List.set_cons_zero, List.set_cons_succ, Option.map_some, Option.map_none, List.getD, Option.getD_some, if_true, true_and, and_true, Nat.reduceAdd, Nat.reduceSub, reduceIte, Bool.false_eq_true, Bool.not_true, Bool.not_false]
      split
      · next hodd =>
        have hb : t / 2 ^ i % 2 = 1 := by omega
        have hq3 := hq2 (Nat.pos_of_ne_zero fun c => by rw [c] at hb; cases hb)
        subst hq3
        refine join_call h0 hn hf1 hf2 (by omega) (by omega) ?_
        refine hL _ ?_
        rw [e2, hb, Nat.mul_one, Nat.add_comm]
      · next hev =>
        have hb : t / 2 ^ i % 2 = 0 := by omega
        refine hL _ ?_
        rw [e2, hb, Nat.mul_zero, Nat.add_zero]
  · obtain ⟨o4, q, z, rfl, _, _, _⟩ := hs2
    have e6 : t % 2 ^ (rngD 0 6).length = t := by rw [rngD_len]; exact Nat.mod_eq_of_lt (by omega)
    rw [hN3, e6]
    simp only [vw_jk, at_0, at_1, at_2, at_3, at_4, ix_40, ix_41, ix_42, ix_43, boolsD_comp, intsD_comp, sh_int, sh_bool, sh_none, sh_str, ev_int, ev_bool, ev_str, ev_none, ev_ni, ev_in, uIfS, evT, ev, uRet, uRetO, uRetN, uDrop, uSet, uSetO, uMove, uFrz, uNext, uBreak, uCont, uApp, uIns, uPut, uPutA, uAug, uRaise, uVar, uC, uOp, uUn, uTru, uTst, uNot, uAnd, uOr, uAndV, uOrV, uNotV, uIf, uNil, uCons, argU, uTup, uLst, allD, onDs, onD, onT, onBool, oI, oIC, oAdd, oEq, oIsN, isN_none, isN_int, isN_bool, isN_str, isN_list, isN_tup, truD, oIx, uSl, uPart, uNoP, oSl, uCB, oLen, oList, oTuple, oInt, oAbs, oAll, oAny, oSum, onB, onI, uIs, uIs2, isT, uCall, uCallP, pick, vw, vw1, okU, okX, nolU, nol, nols, startU, kOf, kQ, kT, onL, uSeqI, uRng1, uRng2, rOk, uEnum, uRep, uTupRev, uYes, ugN, ugT2, wipeU, setU, uIfQ, uRetQ, uSetQ, uPutQ, ixC, szD, List.map_cons, List.map_nil, List.length_cons, List.length_nil, List.replicate, List.cons_append, List.nil_append, List.getElem?_cons_zero, List.getElem?_cons_succ, List.set_cons_zero, List.set_cons_succ, Option.map_some, Option.map_none, List.getD, Option.getD_some, if_true, true_and, and_true, Nat.reduceAdd, Nat.reduceSub, reduceIte, Bool.false_eq_true, Bool.not_true, Bool.not_false]
    exact hp
theorem sc__law_throws_right : FnScope ["_law_hold", "_law_many", "_law_spots", "_law_k", "_law_laps", "_law_due"] ["_law_hold", "_law_many"] (defScope s__law_throws_right) := ⟨rfl, rfl, rfl, by decide +kernel, rfl, by decide +kernel, by decide +kernel⟩
theorem nat_of {n : Int} {l : List D} (h : ∀ (i : Nat) (y : D), l[i]? = some y → ∃ z : Int, y = .int z ∧ 0 ≤ z ∧ z < n) : ∃ fs : List Nat, l = natL fs ∧ ∀ f ∈ fs, (f : Int) < n := by
  induction l with
  | nil => exact ⟨[], rfl, fun _ h => by cases h⟩
  | cons a l ih =>
    obtain ⟨z, rfl, h1, h2⟩ := h 0 a rfl
    obtain ⟨fs, rfl, hf⟩ := ih fun i y e => h (i + 1) y (by simpa using e)
    refine ⟨z.toNat :: fs, ?_, fun f hf' => ?_⟩
    · show _ = PyData.int _ :: natL fs
      rw [show ((z.toNat : Nat) : Int) = z by omega]
    · rcases List.mem_cons.mp hf' with rfl | q
      · omega
      · exact hf f q
theorem natL_inj : ∀ {l m : List Nat}, natL l = natL m → l = m
  | [], [], _ => rfl
  | a :: l, b :: m, h => by
    have h' : ((.int (a : Int) : D) :: natL l) = .int (b : Int) :: natL m := h
    injection h' with h1 h2
    injection h1 with h3
    rw [natL_inj h2, show a = b by omega]
  | [], _ :: _, h => by cases h
  | _ :: _, [], h => by cases h
theorem nat_at {fs : List Nat} {b : Int} (h0 : 0 ≤ b) (h1 : b < fs.length) : ∃ f : Nat, f ∈ fs ∧ atI (natL fs) b = some (.int f) := by
  obtain ⟨x, h2, h3⟩ := at_nn (l := natL fs) h0 (by rw [natL_len]; exact h1)
  obtain ⟨f, rfl, h4⟩ := natL_get h3
  exact ⟨f, List.mem_of_getElem? h4, h2⟩
theorem thr_call {K : Fr} {n t : Nat} {fs : List Nat} {P : U → Prop} {PX : Ex → Prop} (h0 : 0 < n) (hn : n ≤ 1000) (hz : fs.length ≤ 1000) (hf1 : 1 ≤ fs.length) (hf : ∀ f ∈ fs, f < n) (ht : t ≤ 1000) (h : P (.d (.tuple (tab n (hs n (pw fs t)))))) :
    fn_throws_of K [.d (.int n), .d (.tuple (natL fs)), .d (.int t)] P PX := by
  have hne : fs ≠ [] := fun z => by rw [z] at hf1; simp at hf1
  refine ⟨n, _, _, rfl, h0, hn, by show (natL fs).length ≤ 16777216; rw [natL_len]; omega, fun i e => by cases e; omega, fun z => absurd ⟨fs, rfl, hne, hf⟩ z, fun _ z => ?_, fun fs' t' e1 _ _ e2 _ => ?_⟩
  · have : decide ((0 : Int) ≤ (t : Int)) = false := z
    simp at this
  · have e3 : natL fs = natL fs' := by injection e1
    have e4 : fs = fs' := natL_inj e3
    subst e4
    have e5 : t = t' := by injection e2 with e2; omega
    subst e5
    exact h
theorem same_tab {n : Nat} {g : Nat → Int} (hn : n ≤ 1000) {P : U → Prop} {PX : Ex → Prop} (h : P (.d (.bool true))) : fl__law_same 6 [.d (.tuple (tab n g)), .d (.tuple (tab n g))] P PX := same_ints g (List.range n) (by rw [List.length_range]; exact hn) h
theorem natL_rev (fs : List Nat) : (natL fs).reverse = natL fs.reverse := by unfold natL; rw [List.map_reverse]
def fn__law_throws_right : Fn := fun as P PX => ∃ n : Nat, as = [.hold HVk, .d (.int n)] ∧ 0 < n ∧ n ≤ 1000 ∧ P (.d (.bool true))
theorem has__law_throws_right (T : Tk P K mg) {fd__law_take : FuncData} (h__law_take : Has P w K mg base 1 "_law_take" s__law_take ["_law_hold", "_law_many"] fn__law_take fd__law_take) {fd__law_same : FuncData} (h__law_same : Has P w K mg base 7 "_law_same" s__law_same ["_law_got", "_law_two"] fn__law_same fd__law_same) {fd__law_halved : FuncData} (h__law_halved : Has P w K mg base 2 "_law_halved" s__law_halved ["_law_many", "_law_spots", "_law_laps"] fn__law_halved fd__law_halved) {fd__law_listed : FuncData} (h__law_listed : Has P w K mg base 1 "_law_listed" s__law_listed ["_law_many", "_law_spots", "_law_laps"] fn__law_listed fd__law_listed) {fd_throws_of : FuncData} (h_throws_of : Has P w K mg base 3 "throws_of" s_throws_of ["wheel", "faces", "times"] (fn_throws_of K) fd_throws_of) : ∃ fd, Has P w K mg base 8 "_law_throws_right" s__law_throws_right ["_law_hold", "_law_many"] fn__law_throws_right fd := by
  obtain ⟨fd, F⟩ := T.f__law_throws_right
  have hb := F.binds (ps := ["_law_hold", "_law_many"]) fun _ _ _ _ _ _ us hl => match us, hl with | [_, _], _ => rfl
  refine ⟨fd, T.g__law_throws_right, F.kp, F, hb, fnD F sc__law_throws_right (by decide) fun cdv A outer s H E hr => ⟨_, _, (dss_cons (ds_set false 2 (de_lc rfl sc__law_throws_right.nd (own := [("_law_k", 3)]) (di_rng1 (de_op (do_addk (KK := K)) de_int (de_own h__law_take ⟨rfl, rfl, rfl, rfl, rfl⟩ (hr.mono (by decide)) rfl airD (da_cons (dv 0) (da_cons de_int da_nil)))) rfl T.n_range) (blk_of (by kernel_rfl)) (fun _ _ _ _ _ => (dg_name 3 sc__law_throws_right.nd)) (fun _ _ _ _ _ => dts_nil) (fun _ _ _ _ _ => (de_own h__law_take ⟨rfl, rfl, rfl, rfl, rfl⟩ (hr.mono (by decide)) rfl air0 (da_cons (dv 0) (da_cons (dv 1) da_nil))))) sc__law_throws_right.nd)
    (dss_cons (ds_set false 4 (de_own h__law_take ⟨rfl, rfl, rfl, rfl, rfl⟩ (hr.mono (by decide)) rfl airD (da_cons (dv 0) (da_cons de_int da_nil))) sc__law_throws_right.nd)
    (dss_cons (ds_if false (DW.dt (dw_and (dt_cmp do_le (dv 1) de_int) (dw_and1 (dt_cmp (do_eqk (KK := K) hr.units) (de_own h__law_take ⟨rfl, rfl, rfl, rfl, rfl⟩ (hr.mono (by decide)) rfl airD (da_cons (dv 0) (da_cons de_int da_nil))) de_int)))) (dss_cons (ds_set false 2 (de_op (do_addk (KK := K)) (dv 2) (de_lc rfl sc__law_throws_right.nd (own := [("_law_k", 3)]) (di_rng1 (de_own h__law_take ⟨rfl, rfl, rfl, rfl, rfl⟩ (hr.mono (by decide)) rfl airD (da_cons (dv 0) (da_cons de_int da_nil))) rfl T.n_range) (blk_of (by kernel_rfl)) (fun _ _ _ _ _ => (dg_name 3 sc__law_throws_right.nd)) (fun _ _ _ _ _ => dts_nil) (fun _ _ _ _ _ => (de_ixk (KK := K) (dv 2) (de_own h__law_take ⟨rfl, rfl, rfl, rfl, rfl⟩ (hr.mono (by decide)) rfl air0 (da_cons (dv 0) (da_cons (de_callB (dc_lenk (KK := K)) rfl T.n_len bt_len (da_cons (dv 2) da_nil)) da_nil))))))) sc__law_throws_right.nd)
    (dss_cons (ds_set false 2 (de_op (do_addk (KK := K)) (dv 2) (de_lc rfl sc__law_throws_right.nd (own := [("_law_k", 3)]) (di_rng1 (de_own h__law_take ⟨rfl, rfl, rfl, rfl, rfl⟩ (hr.mono (by decide)) rfl airD (da_cons (dv 0) (da_cons de_int da_nil))) rfl T.n_range) (blk_of (by kernel_rfl)) (fun _ _ _ _ _ => (dg_name 3 sc__law_throws_right.nd)) (fun _ _ _ _ _ => dts_nil) (fun _ _ _ _ _ => (de_own h__law_take ⟨rfl, rfl, rfl, rfl, rfl⟩ (hr.mono (by decide)) rfl air0 (da_cons (dv 0) (da_cons (dv 1) da_nil)))))) sc__law_throws_right.nd)
    (dss_one (ds_set false 4 (de_own h__law_take ⟨rfl, rfl, rfl, rfl, rfl⟩ (hr.mono (by decide)) rfl airD (da_cons (dv 0) (da_cons de_int da_nil))) sc__law_throws_right.nd)))) dss_nil)
    (dss_cons (ds_if false (DW.dt (dw_or (dt_cmp do_gt (de_op do_pow (de_callB (dc_lenk (KK := K)) rfl T.n_len bt_len (da_cons (dv 2) da_nil)) de_int) de_int) (dw_or1 (dt_cmp do_gt (dv 4) de_int)))) (dss_one (ds_set false 5 (de_own h__law_halved ⟨rfl, rfl, rfl, rfl, rfl⟩ (hr.mono (by decide)) rfl airD (da_cons (dv 1) (da_cons (dv 2) (da_cons (dv 4) da_nil)))) sc__law_throws_right.nd)) (dss_one (ds_set false 5 (de_own h__law_listed ⟨rfl, rfl, rfl, rfl, rfl⟩ (hr.mono (by decide)) rfl airD (da_cons (dv 1) (da_cons (dv 2) (da_cons (dv 4) da_nil)))) sc__law_throws_right.nd)))
    (dss_cons (ds_if false (dt_not (dt_truk (KK := K) (de_own h__law_same ⟨rfl, rfl, rfl, rfl, rfl⟩ (hr.mono (by decide)) rfl airD (da_cons (de_own h_throws_of ⟨rfl, rfl, rfl, rfl, rfl⟩ (hr.mono (by decide)) rfl airD (da_cons (dv 1) (da_cons (de_callTy (dc_tuplek (KK := K)) rfl T.n_tuple bt_tuple (da_cons (dv 2) da_nil)) (da_cons (dv 4) da_nil)))) (da_cons (dv 5) da_nil))))) (dss_one (ds_ret false de_bl)) dss_nil)
    (dss_one (ds_ret false (de_own h__law_same ⟨rfl, rfl, rfl, rfl, rfl⟩ (hr.mono (by decide)) rfl airD (da_cons (de_ownK0 h_throws_of ⟨rfl, rfl, rfl, rfl, rfl⟩ (hr.mono (by decide)) rfl (kb_throws_of_0 h_throws_of.fu) airD (dk_cons (dv 4) (dk_cons (de_tupRevk (KK := K) (dv 2) rfl rfl T.n_tuple rfl T.n_reversed) (dk_cons (dv 1) dk_nil)))) (da_cons (dv 5) da_nil)))))))))), ?_⟩⟩
  rintro as Q PX hl ⟨n, rfl, h0, hn, hp⟩
  have hn0 : (0 : Int) < n := by omega
  refine i_seq fun N hN => ?_
  simp [vw_jk, at_0, at_1, at_2, at_3, at_4, ix_40, ix_41, ix_42, ix_43, boolsD_comp, intsD_comp, sh_int, sh_bool, sh_none, sh_str, ev_int, ev_bool, ev_str, ev_none, ev_ni, ev_in, uIfS, evT, ev, uRet, uRetO, uRetN, uDrop, uSet, uSetO, uMove, uFrz, uNext, uBreak, uCont, uApp, uIns, uPut, uPutA, uAug, uRaise, uVar, uC, uOp, uUn, uTru, uTst, uNot, uAnd, uOr, uAndV, uOrV, uNotV, uIf, uNil, uCons, argU, uTup, uLst, allD, onDs, onD, onT, onBool, oI, oIC, oAdd, oEq, oIsN, isN_none, isN_int, isN_bool, isN_str, isN_list, isN_tup, truD, oIx, uSl, uPart, uNoP, oSl, uCB, oLen, oList, oTuple, oInt, oAbs, oAll, oAny, oSum, onB, onI, uIs, uIs2, isT, uCall, uCallP, pick, vw, vw1, okU, okX, nolU, nol, nols, startU, kOf, kQ, kT, onL, uSeqI, uRng1, uRng2, rOk, uEnum, uRep, uTupRev, uYes, ugN, ugT2, wipeU, setU, uIfQ, uRetQ, uSetQ, uPutQ, ixC, szD, List.map_cons, List.map_nil, List.length_cons, List.length_nil, List.replicate, List.cons_append, List.nil_append, List.getElem?_cons_zero, List.getElem?_cons_succ, List.set_cons_zero, List.set_cons_succ, Option.map_some, Option.map_none, List.getD, Option.getD_some, if_true, true_and, and_true, Nat.reduceAdd, Nat.reduceSub, reduceIte, Bool.false_eq_true, Bool.not_true, Bool.not_false]
  refine i_lc ?_
  simp [vw_jk, at_0, at_1, at_2, at_3, at_4, ix_40, ix_41, ix_42, ix_43, boolsD_comp, intsD_comp, sh_int, sh_bool, sh_none, sh_str, ev_int, ev_bool, ev_str, ev_none, ev_ni, ev_in, uIfS, evT, ev, uRet, uRetO, uRetN, uDrop, uSet, uSetO, uMove, uFrz, uNext, uBreak, uCont, uApp, uIns, uPut, uPutA, uAug, uRaise, uVar, uC, uOp, uUn, uTru, uTst, uNot, uAnd, uOr, uAndV, uOrV, uNotV, uIf, uNil, uCons, argU, uTup, uLst, allD, onDs, onD, onT, onBool, oI, oIC, oAdd, oEq, oIsN, isN_none, isN_int, isN_bool, isN_str, isN_list, isN_tup, truD, oIx, uSl, uPart, uNoP, oSl, uCB, oLen, oList, oTuple, oInt, oAbs, oAll, oAny, oSum, onB, onI, uIs, uIs2, isT, uCall, uCallP, pick, vw, vw1, okU, okX, nolU, nol, nols, startU, kOf, kQ, kT, onL, uSeqI, uRng1, uRng2, rOk, uEnum, uRep, uTupRev, uYes, ugN, ugT2, wipeU, setU, uIfQ, uRetQ, uSetQ, uPutQ, ixC, szD, List.map_cons, List.map_nil, List.length_cons, List.length_nil, List.replicate, List.cons_append, List.nil_append, List.getElem?_cons_zero, List.getElem?_cons_succ, List.set_cons_zero, List.set_cons_succ, Option.map_some, Option.map_none, List.getD, Option.getD_some, if_true, true_and, and_true, Nat.reduceAdd, Nat.reduceSub, reduceIte, Bool.false_eq_true, Bool.not_true, Bool.not_false]
  refine tk (by decide) (by decide) fun m m0 m1 => ?_
  simp [vw_jk, at_0, at_1, at_2, at_3, at_4, ix_40, ix_41, ix_42, ix_43, boolsD_comp, intsD_comp, sh_int, sh_bool, sh_none, sh_str, ev_int, ev_bool, ev_str, ev_none, ev_ni, ev_in, uIfS, evT, ev, uRet, uRetO, uRetN, uDrop, uSet, uSetO, uMove, uFrz, uNext, uBreak, uCont, uApp, uIns, uPut, uPutA, uAug, uRaise, uVar, uC, uOp, uUn, uTru, uTst, uNot, uAnd, uOr, uAndV, uOrV, uNotV, uIf, uNil, uCons, argU, uTup, uLst, allD, onDs, onD, onT, onBool, oI, oIC, oAdd, oEq, oIsN, isN_none, isN_int, isN_bool, isN_str, isN_list, isN_tup, truD, oIx, uSl, uPart, uNoP, oSl, uCB, oLen, oList, oTuple, oInt, oAbs, oAll, oAny, oSum, onB, onI, uIs, uIs2, isT, uCall, uCallP, pick, vw, vw1, okU, okX, nolU, nol, nols, startU, kOf, kQ, kT, onL, uSeqI, uRng1, uRng2, rOk, uEnum, uRep, uTupRev, uYes, ugN, ugT2, wipeU, setU, uIfQ, uRetQ, uSetQ, uPutQ, ixC, szD, List.map_cons, List.map_nil, List.length_cons, List.length_nil, List.replicate, List.cons_append, List.nil_append, List.getElem?_cons_zero, List.getElem?_cons_succ, List.set_cons_zero, List.set_cons_succ, Option.map_some, Option.map_none, List.getD, Option.getD_some, if_true, true_and, and_true, Nat.reduceAdd, Nat.reduceSub, reduceIte, Bool.false_eq_true, Bool.not_true, Bool.not_false]
  refine ⟨⟨by omega, by omega⟩, ?_⟩
  refine lc_rel (fun _ _ y => ∃ z : Int, y = .int z ∧ 0 ≤ z ∧ z < (n : Int)) (by rw [rngD_len]; exact lt_line (by omega)) (fun i d e => ⟨_, rfl, by simp, fun acc J hJ => ?_⟩) (fun acc ha hr => ?_)
  · simp [vw_jk, at_0, at_1, at_2, at_3, at_4, ix_40, ix_41, ix_42, ix_43, boolsD_comp, intsD_comp, sh_int, sh_bool, sh_none, sh_str, ev_int, ev_bool, ev_str, ev_none, ev_ni, ev_in, uIfS, evT, ev, uRet, uRetO, uRetN, uDrop, uSet, uSetO, uMove, uFrz, uNext, uBreak, uCont, uApp, uIns, uPut, uPutA, uAug, uRaise, uVar, uC, uOp, uUn, uTru, uTst, uNot, uAnd, uOr, uAndV, uOrV, uNotV, uIf, uNil, uCons, argU, uTup, uLst, allD, onDs, onD, onT, onBool, oI, oIC, oAdd, oEq, oIsN, isN_none, isN_int, isN_bool, isN_str, isN_list, isN_tup, truD, oIx, uSl, uPart, uNoP, oSl, uCB, oLen, oList, oTuple, oInt, oAbs, oAll, oAny, oSum, onB, onI, uIs, uIs2, isT, uCall, uCallP, pick, vw, vw1, okU, okX, nolU, nol, nols, startU, kOf, kQ, kT, onL, uSeqI, uRng1, uRng2, rOk, uEnum, uRep, uTupRev, uYes, ugN, ugT2, wipeU, setU, uIfQ, uRetQ, uSetQ, uPutQ, ixC, szD, List.map_cons, List.map_nil, List.length_cons, List.length_nil, List.replicate, List.cons_append, List.nil_append, List.getElem?_cons_zero, List.getElem?_cons_succ, List.set_cons_zero, List.set_cons_succ, Option.map_some, Option.map_none, List.getD, Option.getD_some, if_true, true_and, and_true, Nat.reduceAdd, Nat.reduceSub, reduceIte, Bool.false_eq_true, Bool.not_true, Bool.not_false]
    refine tk hn0 (lgS (by omega)) fun b b0 b1 => ?_
    exact hJ _ ⟨b, rfl, b0, b1⟩
  obtain ⟨fs, rfl, hfs⟩ := nat_of fun i y e => by
    have hi : i < (rngD 0 (1 + m).toNat).length := by rw [← ha]; exact (List.getElem?_eq_some_iff.mp e).1
    exact hr i _ y (List.getElem?_eq_getElem hi) e
  rw [rngD_len, natL_len] at ha
  simp only [vw_jk, at_0, at_1, at_2, at_3, at_4, ix_40, ix_41, ix_42, ix_43, boolsD_comp, intsD_comp, sh_int, sh_bool, sh_none, sh_str, ev_int, ev_bool, ev_str, ev_none, ev_ni, ev_in, uIfS, evT, ev, uRet, uRetO, uRetN, uDrop, uSet, uSetO, uMove, uFrz, uNext, uBreak, uCont, uApp, uIns, uPut, uPutA, uAug, uRaise, uVar, uC, uOp, uUn, uTru, uTst, uNot, uAnd, uOr, uAndV, uOrV, uNotV, uIf, uNil, uCons, argU, uTup, uLst, allD, onDs, onD, onT, onBool, oI, oIC, oAdd, oEq, oIsN, isN_none, isN_int, isN_bool, isN_str, isN_list, isN_tup, truD, oIx, uSl, uPart, uNoP, oSl, uCB, oLen, oList, oTuple, oInt, oAbs, oAll, oAny, oSum, onB, onI, uIs, uIs2, isT, uCall, uCallP, pick, vw, vw1, okU, okX, nolU, nol, nols, startU, kOf, kQ, kT, onL, uSeqI, uRng1, uRng2, rOk, uEnum, uRep, uTupRev, uYes, ugN, ugT2, wipeU, setU, uIfQ, uRetQ, uSetQ, uPutQ, ixC, szD, List.map_cons, List.map_nil, List.length_cons, List.length_nil, List.replicate, List.cons_append, List.nil_append, List.getElem?_cons_zero, List.getElem?_cons_succ, List.set_cons_zero, List.set_cons_succ, Option.map_some, Option.map_none, List.getD, Option.getD_some, if_true, true_and, and_true, Nat.reduceAdd, Nat.reduceSub, reduceIte, Bool.false_eq_true, Bool.not_true, Bool.not_false]
  rw [hN]
  refine i_seq fun N2 hN2 => ?_
  simp [vw_jk, at_0, at_1, at_2, at_3, at_4, ix_40, ix_41, ix_42, ix_43, boolsD_comp, intsD_comp, sh_int, sh_bool, sh_none, sh_str, ev_int, ev_bool, ev_str, ev_none, ev_ni, ev_in, uIfS, evT, ev, uRet, uRetO, uRetN, uDrop, uSet, uSetO, uMove, uFrz, uNext, uBreak, uCont, uApp, uIns, uPut, uPutA, uAug, uRaise, uVar, uC, uOp, uUn, uTru, uTst, uNot, uAnd, uOr, uAndV, uOrV, uNotV, uIf, uNil, uCons, argU, uTup, uLst, allD, onDs, onD, onT, onBool, oI, oIC, oAdd, oEq, oIsN, isN_none, isN_int, isN_bool, isN_str, isN_list, isN_tup, truD, oIx, uSl, uPart, uNoP, oSl, uCB, oLen, oList, oTuple, oInt, oAbs, oAll, oAny, oSum, onB, onI, uIs, uIs2, isT, uCall, uCallP, pick, vw, vw1, okU, okX, nolU, nol, nols, startU, kOf, kQ, kT, onL, uSeqI, uRng1, uRng2, rOk, uEnum, uRep, uTupRev, uYes, ugN, ugT2, wipeU, setU, uIfQ, uRetQ, uSetQ, uPutQ, ixC, szD, List.map_cons, List.map_nil, List.length_cons, List.length_nil, List.replicate, List.cons_append, List.nil_append, List.getElem?_cons_zero, List.getElem?_cons_succ, List.set_cons_zero, List.set_cons_succ, Option.map_some, Option.map_none, List.getD, Option.getD_some, if_true, true_and, and_true, Nat.reduceAdd, Nat.reduceSub, reduceIte, Bool.false_eq_true, Bool.not_true, Bool.not_false]
  refine tk (by decide) (by decide) fun lp l0 l1 => ?_
  simp [vw_jk, at_0, at_1, at_2, at_3, at_4, ix_40, ix_41, ix_42, ix_43, boolsD_comp, intsD_comp, sh_int, sh_bool, sh_none, sh_str, ev_int, ev_bool, ev_str, ev_none, ev_ni, ev_in, uIfS, evT, ev, uRet, uRetO, uRetN, uDrop, uSet, uSetO, uMove, uFrz, uNext, uBreak, uCont, uApp, uIns, uPut, uPutA, uAug, uRaise, uVar, uC, uOp, uUn, uTru, uTst, uNot, uAnd, uOr, uAndV, uOrV, uNotV, uIf, uNil, uCons, argU, uTup, uLst, allD, onDs, onD, onT, onBool, oI, oIC, oAdd, oEq, oIsN, isN_none, isN_int, isN_bool, isN_str, isN_list, isN_tup, truD, oIx, uSl, uPart, uNoP, oSl, uCB, oLen, oList, oTuple, oInt, oAbs, oAll, oAny, oSum, onB, onI, uIs, uIs2, isT, uCall, uCallP, pick, vw, vw1, okU, okX, nolU, nol, nols, startU, kOf, kQ, kT, onL, uSeqI, uRng1, uRng2, rOk, uEnum, uRep, uTupRev, uYes, ugN, ugT2, wipeU, setU, uIfQ, uRetQ, uSetQ, uPutQ, ixC, szD, List.map_cons, List.map_nil, List.length_cons, List.length_nil, List.replicate, List.cons_append, List.nil_append, List.getElem?_cons_zero, List.getElem?_cons_succ, List.set_cons_zero, List.set_cons_succ, Option.map_some, Option.map_none, List.getD, Option.getD_some, if_true, true_and, and_true, Nat.reduceAdd, Nat.reduceSub, reduceIte, Bool.false_eq_true, Bool.not_true, Bool.not_false]
  rw [hN2]
  let M : Sl → Prop := fun s' => ∃ (fs : List Nat) (t : Nat), s' = [some (.hold HVk), some (.d (.int n)), some (.d (.list (natL fs))), none, some (.d (.int t)), none] ∧ 1 ≤ fs.length ∧ fs.length ≤ 12 ∧ t ≤ 40 ∧ ∀ f ∈ fs, f < n
  refine i_cut M ?_ ?_
  · rintro s' ⟨fs, t, rfl, hf1, hf2, ht, hf⟩
    refine i_cut (fun s' => s' = [some (.hold HVk), some (.d (.int n)), some (.d (.list (natL fs))), none, some (.d (.int t)), some (.d (.tuple (tab n (hs n (pw fs t)))))]) ?_ ?_
    · rintro s' rfl
      refine i_seq fun N3 hN3 => ?_
      simp [vw_jk, at_0, at_1, at_2, at_3, at_4, ix_40, ix_41, ix_42, ix_43, boolsD_comp, intsD_comp, sh_int, sh_bool, sh_none, sh_str, ev_int, ev_bool, ev_str, ev_none, ev_ni, ev_in, uIfS, evT, ev, uRet, uRetO, uRetN, uDrop, uSet, uSetO, uMove, uFrz, uNext, uBreak, uCont, uApp, uIns, uPut, uPutA, uAug, uRaise, uVar, uC, uOp, uUn, uTru, uTst, uNot, uAnd, uOr, uAndV, uOrV, uNotV, uIf, uNil, uCons, argU, uTup, uLst, allD, onDs, onD, onT, onBool, oI, oIC, oAdd, oEq, oIsN, isN_none, isN_int, isN_bool, isN_str, isN_list, isN_tup, truD, oIx, uSl, uPart, uNoP, oSl, uCB, oLen, oList, oTuple, oInt, oAbs, oAll, oAny, oSum, onB, onI, uIs, uIs2, isT, uCall, uCallP, pick, vw, vw1, okU, okX, nolU, nol, nols, startU, kOf, kQ, kT, onL, uSeqI, uRng1, uRng2, rOk, uEnum, uRep, uTupRev, uYes, ugN, ugT2, wipeU, setU, uIfQ, uRetQ, uSetQ, uPutQ, ixC, szD, List.map_cons, List.map_nil, List.length_cons, List.length_nil, List.replicate, List.cons_append, List.nil_append, List.getElem?_cons_zero, List.getElem?_cons_succ, List.set_cons_zero, List.set_cons_succ, Option.map_some, Option.map_none, List.getD, Option.getD_some, if_true, true_and, and_true, Nat.reduceAdd, Nat.reduceSub, reduceIte, Bool.false_eq_true, Bool.not_true, Bool.not_false]
      refine thr_call h0 hn (by omega) hf1 hf (by omega) ?_
      simp [vw_jk, at_0, at_1, at_2, at_3, at_4, ix_40, ix_41, ix_42, ix_43, boolsD_comp, intsD_comp, sh_int, sh_bool, sh_none, sh_str, ev_int, ev_bool, ev_str, ev_none, ev_ni, ev_in, uIfS, evT, ev, uRet, uRetO, uRetN, uDrop, uSet, uSetO, uMove, uFrz, uNext, uBreak, uCont, uApp, uIns, uPut, uPutA, uAug, uRaise, uVar, uC, uOp, uUn, uTru, uTst, uNot, uAnd, uOr, uAndV, uOrV, uNotV, uIf, uNil, uCons, argU, uTup, uLst, allD, onDs, onD, onT, onBool, oI, oIC, oAdd, oEq, oIsN, isN_none, isN_int, isN_bool, isN_str, isN_list, isN_tup, truD, oIx, uSl, uPart, uNoP, oSl, uCB, oLen, oList, oTuple, oInt, oAbs, oAll, oAny, oSum, onB, onI, uIs, uIs2, isT, uCall, uCallP, pick, vw, vw1, okU, okX, nolU, nol, nols, startU, kOf, kQ, kT, onL, uSeqI, uRng1, uRng2, rOk, uEnum, uRep, uTupRev, uYes, ugN, ugT2, wipeU, setU, uIfQ, uRetQ, uSetQ, uPutQ, ixC, szD, List.map_cons, List.map_nil, List.length_cons, List.length_nil, List.replicate, List.cons_append, List.nil_append, List.getElem?_cons_zero, List.getElem?_cons_succ, List.set_cons_zero, List.set_cons_succ, Option.map_some, Option.map_none, List.getD, Option.getD_some, if_true, true_and, and_true, Nat.reduceAdd, Nat.reduceSub, reduceIte, Bool.false_eq_true, Bool.not_true, Bool.not_false]
      refine same_tab hn ?_
      simp [vw_jk, at_0, at_1, at_2, at_3, at_4, ix_40, ix_41, ix_42, ix_43, boolsD_comp, intsD_comp, sh_int, sh_bool, sh_none, sh_str, ev_int, ev_bool, ev_str, ev_none, ev_ni, ev_in, uIfS, evT, ev, uRet, uRetO, uRetN, uDrop, uSet, uSetO, uMove, uFrz, uNext, uBreak, uCont, uApp, uIns, uPut, uPutA, uAug, uRaise, uVar, uC, uOp, uUn, uTru, uTst, uNot, uAnd, uOr, uAndV, uOrV, uNotV, uIf, uNil, uCons, argU, uTup, uLst, allD, onDs, onD, onT, onBool, oI, oIC, oAdd, oEq, oIsN, isN_none, isN_int, isN_bool, isN_str, isN_list, isN_tup, truD, oIx, uSl, uPart, uNoP, oSl, uCB, oLen, oList, oTuple, oInt, oAbs, oAll, oAny, oSum, onB, onI, uIs, uIs2, isT, uCall, uCallP, pick, vw, vw1, okU, okX, nolU, nol, nols, startU, kOf, kQ, kT, onL, uSeqI, uRng1, uRng2, rOk, uEnum, uRep, uTupRev, uYes, ugN, ugT2, wipeU, setU, uIfQ, uRetQ, uSetQ, uPutQ, ixC, szD, List.map_cons, List.map_nil, List.length_cons, List.length_nil, List.replicate, List.cons_append, List.nil_append, List.getElem?_cons_zero, List.getElem?_cons_succ, List.set_cons_zero, List.set_cons_succ, Option.map_some, Option.map_none, List.getD, Option.getD_some, if_true, true_and, and_true, Nat.reduceAdd, Nat.reduceSub, reduceIte, Bool.false_eq_true, Bool.not_true, Bool.not_false]
      rw [hN3]
      simp [vw_jk, at_0, at_1, at_2, at_3, at_4, ix_40, ix_41, ix_42, ix_43, boolsD_comp, intsD_comp, sh_int, sh_bool, sh_none, sh_str, ev_int, ev_bool, ev_str, ev_none, ev_ni, ev_in, uIfS, evT, ev, uRet, uRetO, uRetN, uDrop, uSet, uSetO, uMove, uFrz, uNext, uBreak, uCont, uApp, uIns, uPut, uPutA, uAug, uRaise, uVar, uC, uOp, uUn, uTru, uTst, uNot, uAnd, uOr, uAndV, uOrV, uNotV, uIf, uNil, uCons, argU, uTup, uLst, allD, onDs, onD, onT, onBool, oI, oIC, oAdd, oEq, oIsN, isN_none, isN_int, isN_bool, isN_str, isN_list, isN_tup, truD, oIx, uSl, uPart, uNoP, oSl, uCB, oLen, oList, oTuple, oInt, oAbs, oAll, oAny, oSum, onB, onI, uIs, uIs2, isT, uCall, uCallP, pick, vw, vw1, okU, okX, nolU, nol, nols, startU, kOf, kQ, kT, onL, uSeqI, uRng1, uRng2, rOk, uEnum, uRep, uTupRev, uYes, ugN, ugT2, wipeU, setU, uIfQ, uRetQ, uSetQ, uPutQ, ixC, szD, List.map_cons, List.map_nil, List.length_cons, List.length_nil, List.replicate, List.cons_append, List.nil_append, List.getElem?_cons_zero, List.getElem?_cons_succ, List.set_cons_zero, List.set_cons_succ, Option.map_some, Option.map_none, List.getD, Option.getD_some, if_true, true_and, and_true, Nat.reduceAdd, Nat.reduceSub, reduceIte, Bool.false_eq_true, Bool.not_true, Bool.not_false]
      rw [natL_rev]
      refine thr_call h0 hn (by simp; omega) (by simp; omega) (fun f h => hf f (by simpa using h)) (by omega) ?_
      rw [show tab n (hs n (pw fs.reverse t)) = tab n (hs n (pw fs t)) from tab_congr fun j _ => hs_perm (pw_perm (List.reverse_perm fs) t) j]
      simp [vw_jk, at_0, at_1, at_2, at_3, at_4, ix_40, ix_41, ix_42, ix_43, boolsD_comp, intsD_comp, sh_int, sh_bool, sh_none, sh_str, ev_int, ev_bool, ev_str, ev_none, ev_ni, ev_in, uIfS, evT, ev, uRet, uRetO, uRetN, uDrop, uSet, uSetO, uMove, uFrz, uNext, uBreak, uCont, uApp, uIns, uPut, uPutA, uAug, uRaise, uVar, uC, uOp, uUn, uTru, uTst, uNot, uAnd, uOr, uAndV, uOrV, uNotV, uIf, uNil, uCons, argU, uTup, uLst, allD, onDs, onD, onT, onBool, oI, oIC, oAdd, oEq, oIsN, isN_none, isN_int, isN_bool, isN_str, isN_list, isN_tup, truD, oIx, uSl, uPart, uNoP, oSl, uCB, oLen, oList, oTuple, oInt, oAbs, oAll, oAny, oSum, onB, onI, uIs, uIs2, isT, uCall, uCallP, pick, vw, vw1, okU, okX, nolU, nol, nols, startU, kOf, kQ, kT, onL, uSeqI, uRng1, uRng2, rOk, uEnum, uRep, uTupRev, uYes, ugN, ugT2, wipeU, setU, uIfQ, uRetQ, uSetQ, uPutQ, ixC, szD, List.map_cons, List.map_nil, List.length_cons, List.length_nil, List.replicate, List.cons_append, List.nil_append, List.getElem?_cons_zero, List.getElem?_cons_succ, List.set_cons_zero, List.set_cons_succ, Option.map_some, Option.map_none, List.getD, Option.getD_some, if_true, true_and, and_true, Nat.reduceAdd, Nat.reduceSub, reduceIte, Bool.false_eq_true, Bool.not_true, Bool.not_false]
      exact same_tab hn hp
    · intro L hL
      have big : fn__law_halved [.d (.int n), .d (.list (natL fs)), .d (.int t)] (fun r => onD r fun x => L [some (.hold HVk), some (.d (.int n)), some (.d (.list (natL fs))), none, some (.d (.int t)), some (.d x)]) PX :=
        ⟨n, fs, t, rfl, h0, hn, hf1, hf2, by omega, hf, hL _ rfl⟩
      simp [vw_jk, at_0, at_1, at_2, at_3, at_4, ix_40, ix_41, ix_42, ix_43, boolsD_comp, intsD_comp, sh_int, sh_bool, sh_none, sh_str, ev_int, ev_bool, ev_str, ev_none, ev_ni, ev_in, uIfS, evT, ev, uRet, uRetO, uRetN, uDrop, uSet, uSetO, uMove, uFrz, uNext, uBreak, uCont, uApp, uIns, uPut, uPutA, uAug, uRaise, uVar, uC, uOp, uUn, uTru, uTst, uNot, uAnd, uOr, uAndV, uOrV, uNotV, uIf, uNil, uCons, argU, uTup, uLst, allD, onDs, onD, onT, onBool, oI, oIC, oAdd, oEq, oIsN, isN_none, isN_int, isN_bool, isN_str, isN_list, isN_tup, truD, oIx, uSl, uPart, uNoP, oSl, uCB, oLen, oList, oTuple, oInt, oAbs, oAll, oAny, oSum, onB, onI, uIs, uIs2, isT, uCall, uCallP, pick, vw, vw1, okU, okX, nolU, nol, nols, startU, kOf, kQ, kT, onL, uSeqI, uRng1, uRng2, rOk, uEnum, uRep, uTupRev, uYes, ugN, ugT2, wipeU, setU, uIfQ, uRetQ, uSetQ, uPutQ, ixC, szD, List.map_cons, List.map_nil, List.length_cons, List.length_nil, List.replicate, List.cons_append, List.nil_append, List.getElem?_cons_zero, List.getElem?_cons_succ, List.set_cons_zero, List.set_cons_succ, Option.map_some, Option.map_none, List.getD, Option.getD_some, if_true, true_and, and_true, Nat.reduceAdd, Nat.reduceSub, reduceIte, Bool.false_eq_true, Bool.not_true, Bool.not_false]
      refine ⟨powS (by decide) (by decide) (by rw [natL_len]; omega), ?_⟩
      split
      · exact big
      · next hle =>
        split
        · exact big
        · next ht4 =>
          have h44 : fs.length ≤ 4 := by
            rcases Nat.lt_or_ge 4 fs.length with c | c
            · exfalso
              have : (5 : Nat) ^ 4 ≤ fs.length ^ 4 := Nat.pow_le_pow_left c 4
              rw [natL_len] at hle
              have h2 : ((fs.length ^ 4 : Nat) : Int) ≤ 256 := by push_cast; omega
              omega
            · exact c
          have ht5 : t ≤ 4 := by omega
          have hpw : fs.length ^ t ≤ 1000 := Nat.le_trans (Nat.le_trans (Nat.pow_le_pow_left h44 t) (Nat.pow_le_pow_right (by decide) ht5)) (by decide)
          exact ⟨n, _, fs, t, rfl, .inl rfl, h0, hn, hf1, by omega, hpw, by omega, hL _ rfl⟩
  · intro L hL
    have hM : ∀ (fs : List Nat) (t : Nat) (s' : Sl), s' = [some (.hold HVk), some (.d (.int n)), some (.d (.list (natL fs))), none, some (.d (.int t)), none] → 1 ≤ fs.length → fs.length ≤ 12 → t ≤ 40 → (∀ f ∈ fs, (f : Int) < n) → L s' := fun fs t s' e h1 h2 h3 h4 => hL _ ⟨fs, t, e, h1, h2, h3, fun f hf => by have := h4 f hf; omega⟩
    have base0 : L [some (.hold HVk), some (.d (.int n)), some (.d (.list (natL fs))), none, some (.d (.int lp)), none] := by
      obtain ⟨lt, rfl⟩ : ∃ lt : Nat, lp = lt := ⟨lp.toNat, by omega⟩
      exact hM fs lt _ rfl (by omega) (by omega) (by omega) hfs
    simp [vw_jk, at_0, at_1, at_2, at_3, at_4, ix_40, ix_41, ix_42, ix_43, boolsD_comp, intsD_comp, sh_int, sh_bool, sh_none, sh_str, ev_int, ev_bool, ev_str, ev_none, ev_ni, ev_in, uIfS, evT, ev, uRet, uRetO, uRetN, uDrop, uSet, uSetO, uMove, uFrz, uNext, uBreak, uCont, uApp, uIns, uPut, uPutA, uAug, uRaise, uVar, uC, uOp, uUn, uTru, uTst, uNot, uAnd, uOr, uAndV, uOrV, uNotV, uIf, uNil, uCons, argU, uTup, uLst, allD, onDs, onD, onT, onBool, oI, oIC, oAdd, oEq, oIsN, isN_none, isN_int, isN_bool, isN_str, isN_list, isN_tup, truD, oIx, uSl, uPart, uNoP, oSl, uCB, oLen, oList, oTuple, oInt, oAbs, oAll, oAny, oSum, onB, onI, uIs, uIs2, isT, uCall, uCallP, pick, vw, vw1, okU, okX, nolU, nol, nols, startU, kOf, kQ, kT, onL, uSeqI, uRng1, uRng2, rOk, uEnum, uRep, uTupRev, uYes, ugN, ugT2, wipeU, setU, uIfQ, uRetQ, uSetQ, uPutQ, ixC, szD, List.map_cons, List.map_nil, List.length_cons, List.length_nil, List.replicate, List.cons_append, List.nil_append, List.getElem?_cons_zero, List.getElem?_cons_succ, List.set_cons_zero, List.set_cons_succ, Option.map_some, Option.map_none, List.getD, Option.getD_some, if_true, true_and, and_true, Nat.reduceAdd, Nat.reduceSub, reduceIte, Bool.false_eq_true, Bool.not_true, Bool.not_false]
    split
    · refine tk (by decide) (by decide) fun b b0 b1 => ?_
      simp [vw_jk, at_0, at_1, at_2, at_3, at_4, ix_40, ix_41, ix_42, ix_43, boolsD_comp, intsD_comp, sh_int, sh_bool, sh_none, sh_str, ev_int, ev_bool, ev_str, ev_none, ev_ni, ev_in, uIfS, evT, ev, uRet, uRetO, uRetN, uDrop, uSet, uSetO, uMove, uFrz, uNext, uBreak, uCont, uApp, uIns, uPut, uPutA, uAug, uRaise, uVar, uC, uOp, uUn, uTru, uTst, uNot, uAnd, uOr, uAndV, uOrV, uNotV, uIf, uNil, uCons, argU, uTup, uLst, allD, onDs, onD, onT, onBool, oI, oIC, oAdd, oEq, oIsN, isN_none, isN_int, isN_bool, isN_str, isN_list, isN_tup, truD, oIx, uSl, uPart, uNoP, oSl, uCB, oLen, oList, oTuple, oInt, oAbs, oAll, oAny, oSum, onB, onI, uIs, uIs2, isT, uCall, uCallP, pick, vw, vw1, okU, okX, nolU, nol, nols, startU, kOf, kQ, kT, onL, uSeqI, uRng1, uRng2, rOk, uEnum, uRep, uTupRev, uYes, ugN, ugT2, wipeU, setU, uIfQ, uRetQ, uSetQ, uPutQ, ixC, szD, List.map_cons, List.map_nil, List.length_cons, List.length_nil, List.replicate, List.cons_append, List.nil_append, List.getElem?_cons_zero, List.getElem?_cons_succ, List.set_cons_zero, List.set_cons_succ, Option.map_some, Option.map_none, List.getD, Option.getD_some, if_true, true_and, and_true, Nat.reduceAdd, Nat.reduceSub, reduceIte, Bool.false_eq_true, Bool.not_true, Bool.not_false]
      split
      · refine i_seq fun N3 hN3 => ?_
        simp [vw_jk, at_0, at_1, at_2, at_3, at_4, ix_40, ix_41, ix_42, ix_43, boolsD_comp, intsD_comp, sh_int, sh_bool, sh_none, sh_str, ev_int, ev_bool, ev_str, ev_none, ev_ni, ev_in, uIfS, evT, ev, uRet, uRetO, uRetN, uDrop, uSet, uSetO, uMove, uFrz, uNext, uBreak, uCont, uApp, uIns, uPut, uPutA, uAug, uRaise, uVar, uC, uOp, uUn, uTru, uTst, uNot, uAnd, uOr, uAndV, uOrV, uNotV, uIf, uNil, uCons, argU, uTup, uLst, allD, onDs, onD, onT, onBool, oI, oIC, oAdd, oEq, oIsN, isN_none, isN_int, isN_bool, isN_str, isN_list, isN_tup, truD, oIx, uSl, uPart, uNoP, oSl, uCB, oLen, oList, oTuple, oInt, oAbs, oAll, oAny, oSum, onB, onI, uIs, uIs2, isT, uCall, uCallP, pick, vw, vw1, okU, okX, nolU, nol, nols, startU, kOf, kQ, kT, onL, uSeqI, uRng1, uRng2, rOk, uEnum, uRep, uTupRev, uYes, ugN, ugT2, wipeU, setU, uIfQ, uRetQ, uSetQ, uPutQ, ixC, szD, List.map_cons, List.map_nil, List.length_cons, List.length_nil, List.replicate, List.cons_append, List.nil_append, List.getElem?_cons_zero, List.getElem?_cons_succ, List.set_cons_zero, List.set_cons_succ, Option.map_some, Option.map_none, List.getD, Option.getD_some, if_true, true_and, and_true, Nat.reduceAdd, Nat.reduceSub, reduceIte, Bool.false_eq_true, Bool.not_true, Bool.not_false]
        refine i_lc ?_
        simp [vw_jk, at_0, at_1, at_2, at_3, at_4, ix_40, ix_41, ix_42, ix_43, boolsD_comp, intsD_comp, sh_int, sh_bool, sh_none, sh_str, ev_int, ev_bool, ev_str, ev_none, ev_ni, ev_in, uIfS, evT, ev, uRet, uRetO, uRetN, uDrop, uSet, uSetO, uMove, uFrz, uNext, uBreak, uCont, uApp, uIns, uPut, uPutA, uAug, uRaise, uVar, uC, uOp, uUn, uTru, uTst, uNot, uAnd, uOr, uAndV, uOrV, uNotV, uIf, uNil, uCons, argU, uTup, uLst, allD, onDs, onD, onT, onBool, oI, oIC, oAdd, oEq, oIsN, isN_none, isN_int, isN_bool, isN_str, isN_list, isN_tup, truD, oIx, uSl, uPart, uNoP, oSl, uCB, oLen, oList, oTuple, oInt, oAbs, oAll, oAny, oSum, onB, onI, uIs, uIs2, isT, uCall, uCallP, pick, vw, vw1, okU, okX, nolU, nol, nols, startU, kOf, kQ, kT, onL, uSeqI, uRng1, uRng2, rOk, uEnum, uRep, uTupRev, uYes, ugN, ugT2, wipeU, setU, uIfQ, uRetQ, uSetQ, uPutQ, ixC, szD, List.map_cons, List.map_nil, List.length_cons, List.length_nil, List.replicate, List.cons_append, List.nil_append, List.getElem?_cons_zero, List.getElem?_cons_succ, List.set_cons_zero, List.set_cons_succ, Option.map_some, Option.map_none, List.getD, Option.getD_some, if_true, true_and, and_true, Nat.reduceAdd, Nat.reduceSub, reduceIte, Bool.false_eq_true, Bool.not_true, Bool.not_false]
        refine tk (by decide) (by decide) fun c c0 c1 => ?_
        simp [vw_jk, at_0, at_1, at_2, at_3, at_4, ix_40, ix_41, ix_42, ix_43, boolsD_comp, intsD_comp, sh_int, sh_bool, sh_none, sh_str, ev_int, ev_bool, ev_str, ev_none, ev_ni, ev_in, uIfS, evT, ev, uRet, uRetO, uRetN, uDrop, uSet, uSetO, uMove, uFrz, uNext, uBreak, uCont, uApp, uIns, uPut, uPutA, uAug, uRaise, uVar, uC, uOp, uUn, uTru, uTst, uNot, uAnd, uOr, uAndV, uOrV, uNotV, uIf, uNil, uCons, argU, uTup, uLst, allD, onDs, onD, onT, onBool, oI, oIC, oAdd, oEq, oIsN, isN_none, isN_int, isN_bool, isN_str, isN_list, isN_tup, truD, oIx, uSl, uPart, uNoP, oSl, uCB, oLen, oList, oTuple, oInt, oAbs, oAll, oAny, oSum, onB, onI, uIs, uIs2, isT, uCall, uCallP, pick, vw, vw1, okU, okX, nolU, nol, nols, startU, kOf, kQ, kT, onL, uSeqI, uRng1, uRng2, rOk, uEnum, uRep, uTupRev, uYes, ugN, ugT2, wipeU, setU, uIfQ, uRetQ, uSetQ, uPutQ, ixC, szD, List.map_cons, List.map_nil, List.length_cons, List.length_nil, List.replicate, List.cons_append, List.nil_append, List.getElem?_cons_zero, List.getElem?_cons_succ, List.set_cons_zero, List.set_cons_succ, Option.map_some, Option.map_none, List.getD, Option.getD_some, if_true, true_and, and_true, Nat.reduceAdd, Nat.reduceSub, reduceIte, Bool.false_eq_true, Bool.not_true, Bool.not_false]
        refine ⟨⟨by omega, by omega⟩, ?_⟩
        refine lc_rel (fun _ _ y => ∃ z : Int, y = .int z ∧ 0 ≤ z ∧ z < (n : Int)) (by rw [rngD_len]; exact lt_line (by omega)) (fun i d e => ⟨_, rfl, by simp, fun acc J hJ => ?_⟩) (fun acc2 ha2 hr2 => ?_)
        · simp [vw_jk, at_0, at_1, at_2, at_3, at_4, ix_40, ix_41, ix_42, ix_43, boolsD_comp, intsD_comp, sh_int, sh_bool, sh_none, sh_str, ev_int, ev_bool, ev_str, ev_none, ev_ni, ev_in, uIfS, evT, ev, uRet, uRetO, uRetN, uDrop, uSet, uSetO, uMove, uFrz, uNext, uBreak, uCont, uApp, uIns, uPut, uPutA, uAug, uRaise, uVar, uC, uOp, uUn, uTru, uTst, uNot, uAnd, uOr, uAndV, uOrV, uNotV, uIf, uNil, uCons, argU, uTup, uLst, allD, onDs, onD, onT, onBool, oI, oIC, oAdd, oEq, oIsN, isN_none, isN_int, isN_bool, isN_str, isN_list, isN_tup, truD, oIx, uSl, uPart, uNoP, oSl, uCB, oLen, oList, oTuple, oInt, oAbs, oAll, oAny, oSum, onB, onI, uIs, uIs2, isT, uCall, uCallP, pick, vw, vw1, okU, okX, nolU, nol, nols, startU, kOf, kQ, kT, onL, uSeqI, uRng1, uRng2, rOk, uEnum, uRep, uTupRev, uYes, ugN, ugT2, wipeU, setU, uIfQ, uRetQ, uSetQ, uPutQ, ixC, szD, List.map_cons, List.map_nil, List.length_cons, List.length_nil, List.replicate, List.cons_append, List.nil_append, List.getElem?_cons_zero, List.getElem?_cons_succ, List.set_cons_zero, List.set_cons_succ, Option.map_some, Option.map_none, List.getD, Option.getD_some, if_true, true_and, and_true, Nat.reduceAdd, Nat.reduceSub, reduceIte, Bool.false_eq_true, Bool.not_true, Bool.not_false]
          refine tk (by rw [natL_len]; omega) (lgS (by rw [natL_len]; omega)) fun x x0 x1 => ?_
          rw [natL_len] at x1
          obtain ⟨f, hf1, hf2⟩ := nat_at x0 x1
          simp [vw_jk, at_0, at_1, at_2, at_3, at_4, ix_40, ix_41, ix_42, ix_43, boolsD_comp, intsD_comp, sh_int, sh_bool, sh_none, sh_str, ev_int, ev_bool, ev_str, ev_none, ev_ni, ev_in, uIfS, evT, ev, uRet, uRetO, uRetN, uDrop, uSet, uSetO, uMove, uFrz, uNext, uBreak, uCont, uApp, uIns, uPut, uPutA, uAug, uRaise, uVar, uC, uOp, uUn, uTru, uTst, uNot, uAnd, uOr, uAndV, uOrV, uNotV, uIf, uNil, uCons, argU, uTup, uLst, allD, onDs, onD, onT, onBool, oI, oIC, oAdd, oEq, oIsN, isN_none, isN_int, isN_bool, isN_str, isN_list, isN_tup, truD, oIx, uSl, uPart, uNoP, oSl, uCB, oLen, oList, oTuple, oInt, oAbs, oAll, oAny, oSum, onB, onI, uIs, uIs2, isT, uCall, uCallP, pick, vw, vw1, okU, okX, nolU, nol, nols, startU, kOf, kQ, kT, onL, uSeqI, uRng1, uRng2, rOk, uEnum, uRep, uTupRev, uYes, ugN, ugT2, wipeU, setU, uIfQ, uRetQ, uSetQ, uPutQ, ixC, szD, List.map_cons, List.map_nil, List.length_cons, List.length_nil, List.replicate, List.cons_append, List.nil_append, List.getElem?_cons_zero, List.getElem?_cons_succ, List.set_cons_zero, List.set_cons_succ, Option.map_some, Option.map_none, List.getD, Option.getD_some, if_true, true_and, and_true, Nat.reduceAdd, Nat.reduceSub, reduceIte, Bool.false_eq_true, Bool.not_true, Bool.not_false, hf2]
          exact hJ _ ⟨f, rfl, by omega, hfs f hf1⟩
        obtain ⟨gs, rfl, hgs⟩ := nat_of fun i y e => by
          have hi : i < (rngD 0 c.toNat).length := by rw [← ha2]; exact (List.getElem?_eq_some_iff.mp e).1
          exact hr2 i _ y (List.getElem?_eq_getElem hi) e
        rw [rngD_len, natL_len] at ha2
        simp only [vw_jk, at_0, at_1, at_2, at_3, at_4, ix_40, ix_41, ix_42, ix_43, boolsD_comp, intsD_comp, sh_int, sh_bool, sh_none, sh_str, ev_int, ev_bool, ev_str, ev_none, ev_ni, ev_in, uIfS, evT, ev, uRet, uRetO, uRetN, uDrop, uSet, uSetO, uMove, uFrz, uNext, uBreak, uCont, uApp, uIns, uPut, uPutA, uAug, uRaise, uVar, uC, uOp, uUn, uTru, uTst, uNot, uAnd, uOr, uAndV, uOrV, uNotV, uIf, uNil, uCons, argU, uTup, uLst, allD, onDs, onD, onT, onBool, oI, oIC, oAdd, oEq, oIsN, isN_none, isN_int, isN_bool, isN_str, isN_list, isN_tup, truD, oIx, uSl, uPart, uNoP, oSl, uCB, oLen, oList, oTuple, oInt, oAbs, oAll, oAny, oSum, onB, onI, uIs, uIs2, isT, uCall, uCallP, pick, vw, vw1, okU, okX, nolU, nol, nols, startU, kOf, kQ, kT, onL, uSeqI, uRng1, uRng2, rOk, uEnum, uRep, uTupRev, uYes, ugN, ugT2, wipeU, setU, uIfQ, uRetQ, uSetQ, uPutQ, ixC, szD, List.map_cons, List.map_nil, List.length_cons, List.length_nil, List.replicate, List.cons_append, List.nil_append, List.getElem?_cons_zero, List.getElem?_cons_succ, List.set_cons_zero, List.set_cons_succ, Option.map_some, Option.map_none, List.getD, Option.getD_some, if_true, true_and, and_true, Nat.reduceAdd, Nat.reduceSub, reduceIte, Bool.false_eq_true, Bool.not_true, Bool.not_false]
        refine ⟨lt_line (by rw [natL_len, natL_len]; omega), ?_⟩
        rw [hN3, ← natL_app]
        refine i_seq fun N4 hN4 => ?_
        simp [vw_jk, at_0, at_1, at_2, at_3, at_4, ix_40, ix_41, ix_42, ix_43, boolsD_comp, intsD_comp, sh_int, sh_bool, sh_none, sh_str, ev_int, ev_bool, ev_str, ev_none, ev_ni, ev_in, uIfS, evT, ev, uRet, uRetO, uRetN, uDrop, uSet, uSetO, uMove, uFrz, uNext, uBreak, uCont, uApp, uIns, uPut, uPutA, uAug, uRaise, uVar, uC, uOp, uUn, uTru, uTst, uNot, uAnd, uOr, uAndV, uOrV, uNotV, uIf, uNil, uCons, argU, uTup, uLst, allD, onDs, onD, onT, onBool, oI, oIC, oAdd, oEq, oIsN, isN_none, isN_int, isN_bool, isN_str, isN_list, isN_tup, truD, oIx, uSl, uPart, uNoP, oSl, uCB, oLen, oList, oTuple, oInt, oAbs, oAll, oAny, oSum, onB, onI, uIs, uIs2, isT, uCall, uCallP, pick, vw, vw1, okU, okX, nolU, nol, nols, startU, kOf, kQ, kT, onL, uSeqI, uRng1, uRng2, rOk, uEnum, uRep, uTupRev, uYes, ugN, ugT2, wipeU, setU, uIfQ, uRetQ, uSetQ, uPutQ, ixC, szD, List.map_cons, List.map_nil, List.length_cons, List.length_nil, List.replicate, List.cons_append, List.nil_append, List.getElem?_cons_zero, List.getElem?_cons_succ, List.set_cons_zero, List.set_cons_succ, Option.map_some, Option.map_none, List.getD, Option.getD_some, if_true, true_and, and_true, Nat.reduceAdd, Nat.reduceSub, reduceIte, Bool.false_eq_true, Bool.not_true, Bool.not_false]
        refine i_lc ?_
        simp [vw_jk, at_0, at_1, at_2, at_3, at_4, ix_40, ix_41, ix_42, ix_43, boolsD_comp, intsD_comp, sh_int, sh_bool, sh_none, sh_str, ev_int, ev_bool, ev_str, ev_none, ev_ni, ev_in, uIfS, evT, ev, uRet, uRetO, uRetN, uDrop, uSet, uSetO, uMove, uFrz, uNext, uBreak, uCont, uApp, uIns, uPut, uPutA, uAug, uRaise, uVar, uC, uOp, uUn, uTru, uTst, uNot, uAnd, uOr, uAndV, uOrV, uNotV, uIf, uNil, uCons, argU, uTup, uLst, allD, onDs, onD, onT, onBool, oI, oIC, oAdd, oEq, oIsN, isN_none, isN_int, isN_bool, isN_str, isN_list, isN_tup, truD, oIx, uSl, uPart, uNoP, oSl, uCB, oLen, oList, oTuple, oInt, oAbs, oAll, oAny, oSum, onB, onI, uIs, uIs2, isT, uCall, uCallP, pick, vw, vw1, okU, okX, nolU, nol, nols, startU, kOf, kQ, kT, onL, uSeqI, uRng1, uRng2, rOk, uEnum, uRep, uTupRev, uYes, ugN, ugT2, wipeU, setU, uIfQ, uRetQ, uSetQ, uPutQ, ixC, szD, List.map_cons, List.map_nil, List.length_cons, List.length_nil, List.replicate, List.cons_append, List.nil_append, List.getElem?_cons_zero, List.getElem?_cons_succ, List.set_cons_zero, List.set_cons_succ, Option.map_some, Option.map_none, List.getD, Option.getD_some, if_true, true_and, and_true, Nat.reduceAdd, Nat.reduceSub, reduceIte, Bool.false_eq_true, Bool.not_true, Bool.not_false]
        refine tk (by decide) (by decide) fun c2 d0 d1 => ?_
        simp [vw_jk, at_0, at_1, at_2, at_3, at_4, ix_40, ix_41, ix_42, ix_43, boolsD_comp, intsD_comp, sh_int, sh_bool, sh_none, sh_str, ev_int, ev_bool, ev_str, ev_none, ev_ni, ev_in, uIfS, evT, ev, uRet, uRetO, uRetN, uDrop, uSet, uSetO, uMove, uFrz, uNext, uBreak, uCont, uApp, uIns, uPut, uPutA, uAug, uRaise, uVar, uC, uOp, uUn, uTru, uTst, uNot, uAnd, uOr, uAndV, uOrV, uNotV, uIf, uNil, uCons, argU, uTup, uLst, allD, onDs, onD, onT, onBool, oI, oIC, oAdd, oEq, oIsN, isN_none, isN_int, isN_bool, isN_str, isN_list, isN_tup, truD, oIx, uSl, uPart, uNoP, oSl, uCB, oLen, oList, oTuple, oInt, oAbs, oAll, oAny, oSum, onB, onI, uIs, uIs2, isT, uCall, uCallP, pick, vw, vw1, okU, okX, nolU, nol, nols, startU, kOf, kQ, kT, onL, uSeqI, uRng1, uRng2, rOk, uEnum, uRep, uTupRev, uYes, ugN, ugT2, wipeU, setU, uIfQ, uRetQ, uSetQ, uPutQ, ixC, szD, List.map_cons, List.map_nil, List.length_cons, List.length_nil, List.replicate, List.cons_append, List.nil_append, List.getElem?_cons_zero, List.getElem?_cons_succ, List.set_cons_zero, List.set_cons_succ, Option.map_some, Option.map_none, List.getD, Option.getD_some, if_true, true_and, and_true, Nat.reduceAdd, Nat.reduceSub, reduceIte, Bool.false_eq_true, Bool.not_true, Bool.not_false]
        refine ⟨⟨by omega, by omega⟩, ?_⟩
        refine lc_rel (fun _ _ y => ∃ z : Int, y = .int z ∧ 0 ≤ z ∧ z < (n : Int)) (by rw [rngD_len]; exact lt_line (by omega)) (fun i d e => ⟨_, rfl, by simp, fun acc J hJ => ?_⟩) (fun acc3 ha3 hr3 => ?_)
        · simp [vw_jk, at_0, at_1, at_2, at_3, at_4, ix_40, ix_41, ix_42, ix_43, boolsD_comp, intsD_comp, sh_int, sh_bool, sh_none, sh_str, ev_int, ev_bool, ev_str, ev_none, ev_ni, ev_in, uIfS, evT, ev, uRet, uRetO, uRetN, uDrop, uSet, uSetO, uMove, uFrz, uNext, uBreak, uCont, uApp, uIns, uPut, uPutA, uAug, uRaise, uVar, uC, uOp, uUn, uTru, uTst, uNot, uAnd, uOr, uAndV, uOrV, uNotV, uIf, uNil, uCons, argU, uTup, uLst, allD, onDs, onD, onT, onBool, oI, oIC, oAdd, oEq, oIsN, isN_none, isN_int, isN_bool, isN_str, isN_list, isN_tup, truD, oIx, uSl, uPart, uNoP, oSl, uCB, oLen, oList, oTuple, oInt, oAbs, oAll, oAny, oSum, onB, onI, uIs, uIs2, isT, uCall, uCallP, pick, vw, vw1, okU, okX, nolU, nol, nols, startU, kOf, kQ, kT, onL, uSeqI, uRng1, uRng2, rOk, uEnum, uRep, uTupRev, uYes, ugN, ugT2, wipeU, setU, uIfQ, uRetQ, uSetQ, uPutQ, ixC, szD, List.map_cons, List.map_nil, List.length_cons, List.length_nil, List.replicate, List.cons_append, List.nil_append, List.getElem?_cons_zero, List.getElem?_cons_succ, List.set_cons_zero, List.set_cons_succ, Option.map_some, Option.map_none, List.getD, Option.getD_some, if_true, true_and, and_true, Nat.reduceAdd, Nat.reduceSub, reduceIte, Bool.false_eq_true, Bool.not_true, Bool.not_false]
          refine tk hn0 (lgS (by omega)) fun b b0 b1 => ?_
          exact hJ _ ⟨b, rfl, b0, b1⟩
        obtain ⟨ks, rfl, hks⟩ := nat_of fun i y e => by
          have hi : i < (rngD 0 c2.toNat).length := by rw [← ha3]; exact (List.getElem?_eq_some_iff.mp e).1
          exact hr3 i _ y (List.getElem?_eq_getElem hi) e
        rw [rngD_len, natL_len] at ha3
        simp only [vw_jk, at_0, at_1, at_2, at_3, at_4, ix_40, ix_41, ix_42, ix_43, boolsD_comp, intsD_comp, sh_int, sh_bool, sh_none, sh_str, ev_int, ev_bool, ev_str, ev_none, ev_ni, ev_in, uIfS, evT, ev, uRet, uRetO, uRetN, uDrop, uSet, uSetO, uMove, uFrz, uNext, uBreak, uCont, uApp, uIns, uPut, uPutA, uAug, uRaise, uVar, uC, uOp, uUn, uTru, uTst, uNot, uAnd, uOr, uAndV, uOrV, uNotV, uIf, uNil, uCons, argU, uTup, uLst, allD, onDs, onD, onT, onBool, oI, oIC, oAdd, oEq, oIsN, isN_none, isN_int, isN_bool, isN_str, isN_list, isN_tup, truD, oIx, uSl, uPart, uNoP, oSl, uCB, oLen, oList, oTuple, oInt, oAbs, oAll, oAny, oSum, onB, onI, uIs, uIs2, isT, uCall, uCallP, pick, vw, vw1, okU, okX, nolU, nol, nols, startU, kOf, kQ, kT, onL, uSeqI, uRng1, uRng2, rOk, uEnum, uRep, uTupRev, uYes, ugN, ugT2, wipeU, setU, uIfQ, uRetQ, uSetQ, uPutQ, ixC, szD, List.map_cons, List.map_nil, List.length_cons, List.length_nil, List.replicate, List.cons_append, List.nil_append, List.getElem?_cons_zero, List.getElem?_cons_succ, List.set_cons_zero, List.set_cons_succ, Option.map_some, Option.map_none, List.getD, Option.getD_some, if_true, true_and, and_true, Nat.reduceAdd, Nat.reduceSub, reduceIte, Bool.false_eq_true, Bool.not_true, Bool.not_false]
        refine ⟨lt_line (by rw [natL_len, natL_len, List.length_append]; omega), ?_⟩
        rw [hN4, ← natL_app]
        simp [vw_jk, at_0, at_1, at_2, at_3, at_4, ix_40, ix_41, ix_42, ix_43, boolsD_comp, intsD_comp, sh_int, sh_bool, sh_none, sh_str, ev_int, ev_bool, ev_str, ev_none, ev_ni, ev_in, uIfS, evT, ev, uRet, uRetO, uRetN, uDrop, uSet, uSetO, uMove, uFrz, uNext, uBreak, uCont, uApp, uIns, uPut, uPutA, uAug, uRaise, uVar, uC, uOp, uUn, uTru, uTst, uNot, uAnd, uOr, uAndV, uOrV, uNotV, uIf, uNil, uCons, argU, uTup, uLst, allD, onDs, onD, onT, onBool, oI, oIC, oAdd, oEq, oIsN, isN_none, isN_int, isN_bool, isN_str, isN_list, isN_tup, truD, oIx, uSl, uPart, uNoP, oSl, uCB, oLen, oList, oTuple, oInt, oAbs, oAll, oAny, oSum, onB, onI, uIs, uIs2, isT, uCall, uCallP, pick, vw, vw1, okU, okX, nolU, nol, nols, startU, kOf, kQ, kT, onL, uSeqI, uRng1, uRng2, rOk, uEnum, uRep, uTupRev, uYes, ugN, ugT2, wipeU, setU, uIfQ, uRetQ, uSetQ, uPutQ, ixC, szD, List.map_cons, List.map_nil, List.length_cons, List.length_nil, List.replicate, List.cons_append, List.nil_append, List.getElem?_cons_zero, List.getElem?_cons_succ, List.set_cons_zero, List.set_cons_succ, Option.map_some, Option.map_none, List.getD, Option.getD_some, if_true, true_and, and_true, Nat.reduceAdd, Nat.reduceSub, reduceIte, Bool.false_eq_true, Bool.not_true, Bool.not_false]
        refine tk (by decide) (by decide) fun lp2 e0 e1 => ?_
        simp [vw_jk, at_0, at_1, at_2, at_3, at_4, ix_40, ix_41, ix_42, ix_43, boolsD_comp, intsD_comp, sh_int, sh_bool, sh_none, sh_str, ev_int, ev_bool, ev_str, ev_none, ev_ni, ev_in, uIfS, evT, ev, uRet, uRetO, uRetN, uDrop, uSet, uSetO, uMove, uFrz, uNext, uBreak, uCont, uApp, uIns, uPut, uPutA, uAug, uRaise, uVar, uC, uOp, uUn, uTru, uTst, uNot, uAnd, uOr, uAndV, uOrV, uNotV, uIf, uNil, uCons, argU, uTup, uLst, allD, onDs, onD, onT, onBool, oI, oIC, oAdd, oEq, oIsN, isN_none, isN_int, isN_bool, isN_str, isN_list, isN_tup, truD, oIx, uSl, uPart, uNoP, oSl, uCB, oLen, oList, oTuple, oInt, oAbs, oAll, oAny, oSum, onB, onI, uIs, uIs2, isT, uCall, uCallP, pick, vw, vw1, okU, okX, nolU, nol, nols, startU, kOf, kQ, kT, onL, uSeqI, uRng1, uRng2, rOk, uEnum, uRep, uTupRev, uYes, ugN, ugT2, wipeU, setU, uIfQ, uRetQ, uSetQ, uPutQ, ixC, szD, List.map_cons, List.map_nil, List.length_cons, List.length_nil, List.replicate, List.cons_append, List.nil_append, List.getElem?_cons_zero, List.getElem?_cons_succ, List.set_cons_zero, List.set_cons_succ, Option.map_some, Option.map_none, List.getD, Option.getD_some, if_true, true_and, and_true, Nat.reduceAdd, Nat.reduceSub, reduceIte, Bool.false_eq_true, Bool.not_true, Bool.not_false]
        obtain ⟨lt, rfl⟩ : ∃ lt : Nat, lp2 = lt := ⟨lp2.toNat, by omega⟩
        refine hM (fs ++ (gs ++ ks)) lt _ rfl (by simp; omega) (by simp; omega) (by omega) (fun f hf => ?_)
        rcases List.mem_append.mp hf with h | h
        · exact hfs f h
        · rcases List.mem_append.mp h with h | h
          · exact hgs f h
          · exact hks f h
      · exact base0
    · exact base0
theorem sc__law_heard : FnScope ["_law_which", "_law_many", "_law_first", "_law_last", "e"] ["_law_which", "_law_many", "_law_first", "_law_last"] (defScope s__law_heard) := ⟨rfl, rfl, rfl, by decide +kernel, rfl, by decide +kernel, by decide +kernel⟩
def told (P : U → Prop) : U → Prop := fun r => onD r fun x => P (.d (.tuple [.str "told", x]))
def refd (nm : Str) : D := .tuple [.str "refused", .str nm, .int (-1)]
def refx (K : Fr) (P : U → Prop) : Ex → Prop := fun ex => ∃ nm, ex = refused K nm ∧ P (.d (refd nm))
def fn__law_heard (K : Fr) : Fn := fun as P PX => ∃ (wh n : Int) (x y : D), as = [.d (.int wh), .d (.int n), .d x, .d y] ∧ (wh = 0 → fn_agreements K [.d (.int n), .d x, .d y] (told P) (refx K P)) ∧ (wh = 1 → fn_matches K [.d (.int n), .d x, .d y] (told P) (refx K P)) ∧
  (wh ≠ 0 → wh ≠ 1 → fn_throws_of K [.d (.int n), .d x, .d y] (told P) (refx K P))
theorem agr_mono {K : Fr} {as : List U} {P P' : U → Prop} {X X' : Ex → Prop} (h : fn_agreements K as P X) (hp : ∀ r, P r → P' r) (hx : ∀ x, X x → X' x) : fn_agreements K as P' X' := by
  obtain ⟨w, x, y, e, ⟨s1, s2, h1, h2⟩, h3⟩ := h
  exact ⟨w, x, y, e, ⟨s1, s2, fun z => hx _ (h1 z), fun z z' => hx _ (h2 z z')⟩, fun l m a b c d e f => hp _ (h3 l m a b c d e f)⟩
theorem mat_mono {K : Fr} {as : List U} {P P' : U → Prop} {X X' : Ex → Prop} (h : fn_matches K as P X) (hp : ∀ r, P r → P' r) (hx : ∀ x, X x → X' x) : fn_matches K as P' X' := by
  obtain ⟨w, x, y, e, ⟨s1, s2, h1, h2⟩, h3⟩ := h
  exact ⟨w, x, y, e, ⟨s1, s2, fun z => hx _ (h1 z), fun z z' => hx _ (h2 z z')⟩, fun l m a b c d e f => hp _ (h3 l m a b c d e f)⟩
theorem thr_mono {K : Fr} {as : List U} {P P' : U → Prop} {X X' : Ex → Prop} (h : fn_throws_of K as P X) (hp : ∀ r, P r → P' r) (hx : ∀ x, X x → X' x) : fn_throws_of K as P' X' := by
  obtain ⟨n, x, y, e, s1, s2, s3, s4, h1, h2, h3⟩ := h
  exact ⟨n, x, y, e, s1, s2, s3, s4, fun z => hx _ (h1 z), fun z z' => hx _ (h2 z z'), fun a b c d e f g => hp _ (h3 a b c d e f g)⟩
theorem two_line : 2 ≤ sizeLine := by decide
theorem three_line : 3 ≤ sizeLine := by decide
theorem has__law_heard (T : Tk P K mg) {fd_throws_of : FuncData} (h_throws_of : Has P w K mg base 3 "throws_of" s_throws_of ["wheel", "faces", "times"] (fn_throws_of K) fd_throws_of) {fd_agreements : FuncData} (h_agreements : Has P w K mg base 4 "agreements" s_agreements ["wheel", "one", "pattern"] (fn_agreements K) fd_agreements) {fd_matches : FuncData} (h_matches : Has P w K mg base 5 "matches" s_matches ["wheel", "one", "pattern"] (fn_matches K) fd_matches) : ∃ fd, Has P w K mg base 6 "_law_heard" s__law_heard ["_law_which", "_law_many", "_law_first", "_law_last"] (fn__law_heard K) fd := by
  obtain ⟨fd, F⟩ := T.f__law_heard
  have hb := F.binds (ps := ["_law_which", "_law_many", "_law_first", "_law_last"]) fun _ _ _ _ _ _ us hl => match us, hl with | [_, _, _, _], _ => rfl
  have hxf : ∀ C, csT K C → XfC K C := fun C h => by rw [h]; exact T.xf
  have hec : ∀ C, csT K C → ExcC K C := fun C h => by rw [h]; exact T.ec
  have hno_word : ∀ C, csT K C → PySem.W.findIn K (.ref C) "word" = some none := fun C h => by rw [h]; exact T.x_NotUsable.noW
  have hno_at : ∀ C, csT K C → PySem.W.findIn K (.ref C) "at" = some none := fun C h => by rw [h]; exact T.x_NotUsable.noA
  have hk_NotUsable : ∀ C, csT K C → PySem.W.kitOne K (.ref C) (.ref (He.ga K "NotUsable")) = some true := fun C h => by rw [h]; exact T.i1
  have hk_BoardError : ∀ C, csT K C → PySem.W.kitOne K (.ref C) (.ref (He.ga K "BoardError")) = some true := fun C h => by rw [h]; exact T.i2
  refine ⟨fd, T.g__law_heard, F.kp, F, hb, fnD F sc__law_heard (by decide) fun cdv A outer s H E hr => ⟨_, _, (dss_one (ds_try (i := 4) (c := .ref (He.ga K "WheelError")) (csT K) rfl rfl rfl sc__law_heard.nd rfl rfl ⟨rfl, by decide, .inl T.g_WheelError⟩ tkD (fun W pn xe tk po => (dss_cons (ds_if false (dt_cmp (do_eqk (KK := K) hr.units) (dv 0) de_int) (dss_one (ds_ret false (de_tup (da_cons de_str (da_cons (de_own h_agreements ⟨rfl, rfl, rfl, rfl, rfl⟩ (hr.mono (by decide)) rfl (fun σ => passAt tk σ) (da_cons (dv 1) (da_cons (dv 2) (da_cons (dv 3) da_nil)))) da_nil))))) dss_nil)
    (dss_cons (ds_if false (dt_cmp (do_eqk (KK := K) hr.units) (dv 0) de_int) (dss_one (ds_ret false (de_tup (da_cons de_str (da_cons (de_own h_matches ⟨rfl, rfl, rfl, rfl, rfl⟩ (hr.mono (by decide)) rfl (fun σ => passAt tk σ) (da_cons (dv 1) (da_cons (dv 2) (da_cons (dv 3) da_nil)))) da_nil))))) dss_nil)
    (dss_one (ds_ret false (de_tup (da_cons de_str (da_cons (de_own h_throws_of ⟨rfl, rfl, rfl, rfl, rfl⟩ (hr.mono (by decide)) rfl (fun σ => passAt tk σ) (da_cons (dv 1) (da_cons (dv 2) (da_cons (dv 3) da_nil)))) da_nil)))))))) (fun C a dd oe pn hcs hz hfl => (dss_cons (ds_if false (DW.dt (dw_or (dt_not (dt_truk (KK := K) (de_isXk (KK := K) (X := (XD P w K mg base ["_law_which", "_law_many", "_law_first", "_law_last", "e"] "_law_heard" (defScope s__law_heard) (He.ga K "_law_heard") cdv A outer s H E)) (i := 4) (x := "e") (nm := "NotUsable") (hec _ hcs) hz hfl rfl (.inl rfl) rfl T.n_isinstance rfl T.g_NotUsable (hk_NotUsable _ hcs)))) (dw_or1 (dt_not (dt_truk (KK := K) (de_isXk (KK := K) (X := (XD P w K mg base ["_law_which", "_law_many", "_law_first", "_law_last", "e"] "_law_heard" (defScope s__law_heard) (He.ga K "_law_heard") cdv A outer s H E)) (i := 4) (x := "e") (nm := "BoardError") (hec _ hcs) hz hfl rfl (.inl rfl) rfl T.n_isinstance rfl T.g_BoardError (hk_BoardError _ hcs))))))) (dss_one (ds_ret false (de_tup (da_cons de_str (da_cons de_str (da_cons de_int da_nil)))))) dss_nil)
    (dss_one (ds_ret false (de_tup (da_cons de_str (da_cons (de_xf (X := (XD P w K mg base ["_law_which", "_law_many", "_law_first", "_law_last", "e"] "_law_heard" (defScope s__law_heard) (He.ga K "_law_heard") cdv A outer s H E)) (i := 4) (x := "e") (hxf _ hcs) (hno_word _ hcs) hz hfl rfl (.inl rfl)) (da_cons (de_xf (X := (XD P w K mg base ["_law_which", "_law_many", "_law_first", "_law_last", "e"] "_law_heard" (defScope s__law_heard) (He.ga K "_law_heard") cdv A outer s H E)) (i := 4) (x := "e") (hxf _ hcs) (hno_at _ hcs) hz hfl rfl (.inl rfl)) da_nil)))))))))), ?_⟩⟩
  rintro as Q PX hl ⟨wh, n, x, y, rfl, ha, hm, ht⟩
  unfold uTry
  generalize hk : kTry _ _ 4 (csT K) _ (kOf Q PX) = kk
  have hex : ∀ nm : Str, Q (.d (refd nm)) → kk.ex (refused K nm) [some (.d (.int wh)), some (.d (.int n)), some (.d x), some (.d y), none] := fun nm hq => by
    subst hk
    refine ⟨true, T.em, fun _ => ⟨rfl, fun a dd => ?_⟩, fun z => Bool.noConfusion z⟩
    refine i_seq fun N hN => ?_
    simp [vw_jk, at_0, at_1, at_2, at_3, at_4, ix_40, ix_41, ix_42, ix_43, boolsD_comp, intsD_comp, sh_int, sh_bool, sh_none, sh_str, ev_int, ev_bool, ev_str, ev_none, ev_ni, ev_in, uIfS, evT, ev, uRet, uRetO, uRetN, uDrop, uSet, uSetO, uMove, uFrz, uNext, uBreak, uCont, uApp, uIns, uPut, uPutA, uAug, uRaise, uVar, uC, uOp, uUn, uTru, uTst, uNot, uAnd, uOr, uAndV, uOrV, uNotV, uIf, uNil, uCons, argU, uTup, uLst, allD, onDs, onD, onT, onBool, oI, oIC, oAdd, oEq, oIsN, isN_none, isN_int, isN_bool, isN_str, isN_list, isN_tup, truD, oIx, uSl, uPart, uNoP, oSl, uCB, oLen, oList, oTuple, oInt, oAbs, oAll, oAny, oSum, onB, onI, uIs, uIs2, isT, uCall, uCallP, pick, vw, vw1, okU, okX, nolU, nol, nols, startU, kOf, kQ, kT, onL, uSeqI, uRng1, uRng2, rOk, uEnum, uRep, uTupRev, uYes, ugN, ugT2, wipeU, setU, uIfQ, uRetQ, uSetQ, uPutQ, ixC, szD, List.map_cons, List.map_nil, List.length_cons, List.length_nil, List.replicate, List.cons_append, List.nil_append, List.getElem?_cons_zero, List.getElem?_cons_succ, List.set_cons_zero, List.set_cons_succ, Option.map_some, Option.map_none, List.getD, Option.getD_some, if_true, true_and, and_true, Nat.reduceAdd, Nat.reduceSub, reduceIte, Bool.false_eq_true, Bool.not_true, Bool.not_false, uIsX, refused]
    rw [hN]
    simp [vw_jk, at_0, at_1, at_2, at_3, at_4, ix_40, ix_41, ix_42, ix_43, boolsD_comp, intsD_comp, sh_int, sh_bool, sh_none, sh_str, ev_int, ev_bool, ev_str, ev_none, ev_ni, ev_in, uIfS, evT, ev, uRet, uRetO, uRetN, uDrop, uSet, uSetO, uMove, uFrz, uNext, uBreak, uCont, uApp, uIns, uPut, uPutA, uAug, uRaise, uVar, uC, uOp, uUn, uTru, uTst, uNot, uAnd, uOr, uAndV, uOrV, uNotV, uIf, uNil, uCons, argU, uTup, uLst, allD, onDs, onD, onT, onBool, oI, oIC, oAdd, oEq, oIsN, isN_none, isN_int, isN_bool, isN_str, isN_list, isN_tup, truD, oIx, uSl, uPart, uNoP, oSl, uCB, oLen, oList, oTuple, oInt, oAbs, oAll, oAny, oSum, onB, onI, uIs, uIs2, isT, uCall, uCallP, pick, vw, vw1, okU, okX, nolU, nol, nols, startU, kOf, kQ, kT, onL, uSeqI, uRng1, uRng2, rOk, uEnum, uRep, uTupRev, uYes, ugN, ugT2, wipeU, setU, uIfQ, uRetQ, uSetQ, uPutQ, ixC, szD, List.map_cons, List.map_nil, List.length_cons, List.length_nil, List.replicate, List.cons_append, List.nil_append, List.getElem?_cons_zero, List.getElem?_cons_succ, List.set_cons_zero, List.set_cons_succ, Option.map_some, Option.map_none, List.getD, Option.getD_some, if_true, true_and, and_true, Nat.reduceAdd, Nat.reduceSub, reduceIte, Bool.false_eq_true, Bool.not_true, Bool.not_false, uXf, refused]
    refine ⟨.str nm, ?_, three_line, hq⟩
    rw [List.lookup, show (("word" : Str) == ("at" : Str)) = false from by decide]
    simp [List.lookup]
  have hrt : ∀ (r : D) (s' : Sl), Q (.d (.tuple [.str "told", r])) → kk.rt (.d (.tuple [.str "told", r])) s' := fun r s' h => by
    subst hk; exact h
  have hx0 : ∀ ex, refx K Q ex → kk.ex ex [some (.d (.int wh)), some (.d (.int n)), some (.d x), some (.d y), none] := by
    rintro ex ⟨nm, rfl, h⟩
    exact hex nm h
  have tr : ∀ (r : U) (s' : Sl), told Q r → match Option.map (fun x => PyData.str (Str.ofString "told") :: x) (allD [match r with
                | U.d x => U.d x
                | U.own l => U.d (PyData.list l)
                | U.hold V => U.hold V
                | U.exc a dd fs => U.exc a dd fs]) with
        | some l => l.length ≤ sizeLine ∧ kk.rt (U.d (PyData.tuple l)) s'
        | none => False := fun r s' h => by
    cases r with
    | d x => exact ⟨two_line, hrt _ _ h⟩
    | own l => exact ⟨two_line, hrt _ _ h⟩
    | hold V => exact h.elim
    | exc _ _ _ => exact h.elim
  refine i_seq fun N hN => ?_
  simp [vw_jk, at_0, at_1, at_2, at_3, at_4, ix_40, ix_41, ix_42, ix_43, boolsD_comp, intsD_comp, sh_int, sh_bool, sh_none, sh_str, ev_int, ev_bool, ev_str, ev_none, ev_ni, ev_in, uIfS, evT, ev, uRet, uRetO, uRetN, uDrop, uSet, uSetO, uMove, uFrz, uNext, uBreak, uCont, uApp, uIns, uPut, uPutA, uAug, uRaise, uVar, uC, uOp, uUn, uTru, uTst, uNot, uAnd, uOr, uAndV, uOrV, uNotV, uIf, uNil, uCons, argU, uTup, uLst, allD, onDs, onD, onT, onBool, oI, oIC, oAdd, oEq, oIsN, isN_none, isN_int, isN_bool, isN_str, isN_list, isN_tup, truD, oIx, uSl, uPart, uNoP, oSl, uCB, oLen, oList, oTuple, oInt, oAbs, oAll, oAny, oSum, onB, onI, uIs, uIs2, isT, uCall, uCallP, pick, vw, vw1, okU, okX, nolU, nol, nols, startU, kOf, kQ, kT, onL, uSeqI, uRng1, uRng2, rOk, uEnum, uRep, uTupRev, uYes, ugN, ugT2, wipeU, setU, uIfQ, uRetQ, uSetQ, uPutQ, ixC, szD, List.map_cons, List.map_nil, List.length_cons, List.length_nil, List.replicate, List.cons_append, List.nil_append, List.getElem?_cons_zero, List.getElem?_cons_succ, List.set_cons_zero, List.set_cons_succ, Option.map_some, Option.map_none, List.getD, Option.getD_some, if_true, true_and, and_true, Nat.reduceAdd, Nat.reduceSub, reduceIte, Bool.false_eq_true, Bool.not_true, Bool.not_false]
  split
  · next h0 => exact agr_mono (ha h0) (fun r h => tr r _ h) hx0
  · next h0 =>
    rw [hN]
    refine i_seq fun N2 hN2 => ?_
    simp [vw_jk, at_0, at_1, at_2, at_3, at_4, ix_40, ix_41, ix_42, ix_43, boolsD_comp, intsD_comp, sh_int, sh_bool, sh_none, sh_str, ev_int, ev_bool, ev_str, ev_none, ev_ni, ev_in, uIfS, evT, ev, uRet, uRetO, uRetN, uDrop, uSet, uSetO, uMove, uFrz, uNext, uBreak, uCont, uApp, uIns, uPut, uPutA, uAug, uRaise, uVar, uC, uOp, uUn, uTru, uTst, uNot, uAnd, uOr, uAndV, uOrV, uNotV, uIf, uNil, uCons, argU, uTup, uLst, allD, onDs, onD, onT, onBool, oI, oIC, oAdd, oEq, oIsN, isN_none, isN_int, isN_bool, isN_str, isN_list, isN_tup, truD, oIx, uSl, uPart, uNoP, oSl, uCB, oLen, oList, oTuple, oInt, oAbs, oAll, oAny, oSum, onB, onI, uIs, uIs2, isT, uCall, uCallP, pick, vw, vw1, okU, okX, nolU, nol, nols, startU, kOf, kQ, kT, onL, uSeqI, uRng1, uRng2, rOk, uEnum, uRep, uTupRev, uYes, ugN, ugT2, wipeU, setU, uIfQ, uRetQ, uSetQ, uPutQ, ixC, szD, List.map_cons, List.map_nil, List.length_cons, List.length_nil, List.replicate, List.cons_append, List.nil_append, List.getElem?_cons_zero, List.getElem?_cons_succ, List.set_cons_zero, List.set_cons_succ, Option.map_some, Option.map_none, List.getD, Option.getD_some, if_true, true_and, and_true, Nat.reduceAdd, Nat.reduceSub, reduceIte, Bool.false_eq_true, Bool.not_true, Bool.not_false]
    split
    · next h1 => exact mat_mono (hm h1) (fun r h => tr r _ h) hx0
    · next h1 =>
      rw [hN2]
      simp [vw_jk, at_0, at_1, at_2, at_3, at_4, ix_40, ix_41, ix_42, ix_43, boolsD_comp, intsD_comp, sh_int, sh_bool, sh_none, sh_str, ev_int, ev_bool, ev_str, ev_none, ev_ni, ev_in, uIfS, evT, ev, uRet, uRetO, uRetN, uDrop, uSet, uSetO, uMove, uFrz, uNext, uBreak, uCont, uApp, uIns, uPut, uPutA, uAug, uRaise, uVar, uC, uOp, uUn, uTru, uTst, uNot, uAnd, uOr, uAndV, uOrV, uNotV, uIf, uNil, uCons, argU, uTup, uLst, allD, onDs, onD, onT, onBool, oI, oIC, oAdd, oEq, oIsN, isN_none, isN_int, isN_bool, isN_str, isN_list, isN_tup, truD, oIx, uSl, uPart, uNoP, oSl, uCB, oLen, oList, oTuple, oInt, oAbs, oAll, oAny, oSum, onB, onI, uIs, uIs2, isT, uCall, uCallP, pick, vw, vw1, okU, okX, nolU, nol, nols, startU, kOf, kQ, kT, onL, uSeqI, uRng1, uRng2, rOk, uEnum, uRep, uTupRev, uYes, ugN, ugT2, wipeU, setU, uIfQ, uRetQ, uSetQ, uPutQ, ixC, szD, List.map_cons, List.map_nil, List.length_cons, List.length_nil, List.replicate, List.cons_append, List.nil_append, List.getElem?_cons_zero, List.getElem?_cons_succ, List.set_cons_zero, List.set_cons_succ, Option.map_some, Option.map_none, List.getD, Option.getD_some, if_true, true_and, and_true, Nat.reduceAdd, Nat.reduceSub, reduceIte, Bool.false_eq_true, Bool.not_true, Bool.not_false]
      exact thr_mono (ht h0 h1) (fun r h => tr r _ h) hx0
theorem sc__law_a_odds : FnScope ["_law_hold", "_law_row", "_law_beyond", "_law_place", "_law_odds", "_law_thing", "_law_odd"] ["_law_hold", "_law_row", "_law_beyond"] (defScope s__law_a_odds) := ⟨rfl, rfl, rfl, by decide +kernel, rfl, by decide +kernel, by decide +kernel⟩
def six : List D := [.bool true, .bool false, .str "0", .tuple [.int 0], .list [.int 0], .tuple [.none]]
def Odd (l b : List D) (o : D) : Prop := o = .list l ∨ o = .tuple (l ++ [.int 0]) ∨ o = .tuple (l.drop 1) ∨ o = .none ∨ o = .str "row" ∨ o = .int 0 ∨ o = .tuple [] ∨ ∃ k, k < l.length ∧ ∃ x ∈ b ++ six, o = .tuple (l.take k ++ [x] ++ l.drop (k + 1))
def fn__law_a_odds : Fn := fun as P PX => ∃ l b : List D, as = [.hold HVk, .d (.tuple l), .d (.tuple b)] ∧ 0 < l.length ∧ l.length ≤ 1000 ∧ b.length ≤ 10 ∧ ∀ os : List D, (∀ o ∈ os, Odd l b o) → P (.own os)
theorem has__law_a_odds (T : Tk P K mg) {fd__law_take : FuncData} (h__law_take : Has P w K mg base 1 "_law_take" s__law_take ["_law_hold", "_law_many"] fn__law_take fd__law_take) : ∃ fd, Has P w K mg base 2 "_law_a_odds" s__law_a_odds ["_law_hold", "_law_row", "_law_beyond"] fn__law_a_odds fd := by
  obtain ⟨fd, F⟩ := T.f__law_a_odds
  have hb := F.binds (ps := ["_law_hold", "_law_row", "_law_beyond"]) fun _ _ _ _ _ _ us hl => match us, hl with | [_, _, _], _ => rfl
  refine ⟨fd, T.g__law_a_odds, F.kp, F, hb, fnD F sc__law_a_odds (by decide) fun cdv A outer s H E hr => ⟨_, _, (dss_cons (ds_set false 3 (de_own h__law_take ⟨rfl, rfl, rfl, rfl, rfl⟩ (hr.mono (by decide)) rfl airD (da_cons (dv 0) (da_cons (de_callB (dc_lenk (KK := K)) rfl T.n_len bt_len (da_cons (dv 1) da_nil)) da_nil))) sc__law_a_odds.nd)
    (dss_cons (ds_setO false 4 (de_lst (da_cons (de_lc rfl sc__law_a_odds.nd (own := [("_law_thing", 5)]) (di_seqk (KK := K) (dv 1)) (blk_of (by kernel_rfl)) (fun _ _ _ _ _ => (dg_name 5 sc__law_a_odds.nd)) (fun _ _ _ _ _ => dts_nil) (fun _ _ _ _ _ => (dv 5))) (da_cons (de_op (do_addk (KK := K)) (dv 1) (de_tup (da_cons de_int da_nil))) (da_cons (de_slicek (KK := K) (dv 1) (do_some de_int) do_none) (da_cons de_non (da_cons de_str (da_cons de_int (da_cons (de_tup da_nil) da_nil)))))))) sc__law_a_odds.nd)
    (dss_cons (ds_for poD rfl (di_seqk (KK := K) (de_op (do_addk (KK := K)) (dv 2) (de_tup (da_cons de_bl (da_cons de_bl (da_cons de_str (da_cons (de_tup (da_cons de_int da_nil)) (da_cons (de_lst (da_cons de_int da_nil)) (da_cons (de_tup (da_cons de_non da_nil)) da_nil))))))))) (dg_name 6 sc__law_a_odds.nd) (dss_one (ds_appk (KK := K) false 4 (de_op (do_addk (KK := K)) (de_op (do_addk (KK := K)) (de_slicek (KK := K) (dv 1) do_none (do_some (dv 3))) (de_tup (da_cons (dv 6) da_nil))) (de_slicek (KK := K) (dv 1) (do_some (de_op (do_addk (KK := K)) (dv 3) de_int)) do_none)))))
    (dss_one (ds_retO 4))))), ?_⟩⟩
  rintro as Q PX hl ⟨l, b, rfl, h0, hz, hb, hp⟩
  refine i_seq fun N hN => ?_
  simp [vw_jk, at_0, at_1, at_2, at_3, at_4, ix_40, ix_41, ix_42, ix_43, boolsD_comp, intsD_comp, sh_int, sh_bool, sh_none, sh_str, ev_int, ev_bool, ev_str, ev_none, ev_ni, ev_in, uIfS, evT, ev, uRet, uRetO, uRetN, uDrop, uSet, uSetO, uMove, uFrz, uNext, uBreak, uCont, uApp, uIns, uPut, uPutA, uAug, uRaise, uVar, uC, uOp, uUn, uTru, uTst, uNot, uAnd, uOr, uAndV, uOrV, uNotV, uIf, uNil, uCons, argU, uTup, uLst, allD, onDs, onD, onT, onBool, oI, oIC, oAdd, oEq, oIsN, isN_none, isN_int, isN_bool, isN_str, isN_list, isN_tup, truD, oIx, uSl, uPart, uNoP, oSl, uCB, oLen, oList, oTuple, oInt, oAbs, oAll, oAny, oSum, onB, onI, uIs, uIs2, isT, uCall, uCallP, pick, vw, vw1, okU, okX, nolU, nol, nols, startU, kOf, kQ, kT, onL, uSeqI, uRng1, uRng2, rOk, uEnum, uRep, uTupRev, uYes, ugN, ugT2, wipeU, setU, uIfQ, uRetQ, uSetQ, uPutQ, ixC, szD, List.map_cons, List.map_nil, List.length_cons, List.length_nil, List.replicate, List.cons_append, List.nil_append, List.getElem?_cons_zero, List.getElem?_cons_succ, List.set_cons_zero, List.set_cons_succ, Option.map_some, Option.map_none, List.getD, Option.getD_some, if_true, true_and, and_true, Nat.reduceAdd, Nat.reduceSub, reduceIte, Bool.false_eq_true, Bool.not_true, Bool.not_false]
  refine tk (by omega) (lgS (by omega)) fun pc p0 p1 => ?_
  obtain ⟨k, rfl⟩ : ∃ k : Nat, pc = k := ⟨pc.toNat, by omega⟩
  have hk : k < l.length := by omega
  have c1 : ∀ j : Nat, j ≤ l.length → cutD l (some (j : Int)) none = l.drop j := fun j hj => by
    unfold cutD
    rw [HT.sIx_nat, HT.sIx_none, Nat.min_eq_left hj]
    exact List.take_of_length_le (by simp)
  have c2 : cutD l none (some (k : Int)) = l.take k := by
    unfold cutD
    rw [HT.sIx_nat, HT.sIx_none, Nat.min_eq_left (by omega)]
    simp
  have c3 : cutD l (some ((k : Int) + 1)) none = l.drop (k + 1) := c1 (k + 1) (by omega)
  have c4 : cutD l (some 1) none = l.drop 1 := c1 1 (by omega)
  simp [vw_jk, at_0, at_1, at_2, at_3, at_4, ix_40, ix_41, ix_42, ix_43, boolsD_comp, intsD_comp, sh_int, sh_bool, sh_none, sh_str, ev_int, ev_bool, ev_str, ev_none, ev_ni, ev_in, uIfS, evT, ev, uRet, uRetO, uRetN, uDrop, uSet, uSetO, uMove, uFrz, uNext, uBreak, uCont, uApp, uIns, uPut, uPutA, uAug, uRaise, uVar, uC, uOp, uUn, uTru, uTst, uNot, uAnd, uOr, uAndV, uOrV, uNotV, uIf, uNil, uCons, argU, uTup, uLst, allD, onDs, onD, onT, onBool, oI, oIC, oAdd, oEq, oIsN, isN_none, isN_int, isN_bool, isN_str, isN_list, isN_tup, truD, oIx, uSl, uPart, uNoP, oSl, uCB, oLen, oList, oTuple, oInt, oAbs, oAll, oAny, oSum, onB, onI, uIs, uIs2, isT, uCall, uCallP, pick, vw, vw1, okU, okX, nolU, nol, nols, startU, kOf, kQ, kT, onL, uSeqI, uRng1, uRng2, rOk, uEnum, uRep, uTupRev, uYes, ugN, ugT2, wipeU, setU, uIfQ, uRetQ, uSetQ, uPutQ, ixC, szD, List.map_cons, List.map_nil, List.length_cons, List.length_nil, List.replicate, List.cons_append, List.nil_append, List.getElem?_cons_zero, List.getElem?_cons_succ, List.set_cons_zero, List.set_cons_succ, Option.map_some, Option.map_none, List.getD, Option.getD_some, if_true, true_and, and_true, Nat.reduceAdd, Nat.reduceSub, reduceIte, Bool.false_eq_true, Bool.not_true, Bool.not_false]
  rw [hN]
  refine i_seq fun N2 hN2 => ?_
  simp [vw_jk, at_0, at_1, at_2, at_3, at_4, ix_40, ix_41, ix_42, ix_43, boolsD_comp, intsD_comp, sh_int, sh_bool, sh_none, sh_str, ev_int, ev_bool, ev_str, ev_none, ev_ni, ev_in, uIfS, evT, ev, uRet, uRetO, uRetN, uDrop, uSet, uSetO, uMove, uFrz, uNext, uBreak, uCont, uApp, uIns, uPut, uPutA, uAug, uRaise, uVar, uC, uOp, uUn, uTru, uTst, uNot, uAnd, uOr, uAndV, uOrV, uNotV, uIf, uNil, uCons, argU, uTup, uLst, allD, onDs, onD, onT, onBool, oI, oIC, oAdd, oEq, oIsN, isN_none, isN_int, isN_bool, isN_str, isN_list, isN_tup, truD, oIx, uSl, uPart, uNoP, oSl, uCB, oLen, oList, oTuple, oInt, oAbs, oAll, oAny, oSum, onB, onI, uIs, uIs2, isT, uCall, uCallP, pick, vw, vw1, okU, okX, nolU, nol, nols, startU, kOf, kQ, kT, onL, uSeqI, uRng1, uRng2, rOk, uEnum, uRep, uTupRev, uYes, ugN, ugT2, wipeU, setU, uIfQ, uRetQ, uSetQ, uPutQ, ixC, szD, List.map_cons, List.map_nil, List.length_cons, List.length_nil, List.replicate, List.cons_append, List.nil_append, List.getElem?_cons_zero, List.getElem?_cons_succ, List.set_cons_zero, List.set_cons_succ, Option.map_some, Option.map_none, List.getD, Option.getD_some, if_true, true_and, and_true, Nat.reduceAdd, Nat.reduceSub, reduceIte, Bool.false_eq_true, Bool.not_true, Bool.not_false]
  refine i_lc ?_
  simp [vw_jk, at_0, at_1, at_2, at_3, at_4, ix_40, ix_41, ix_42, ix_43, boolsD_comp, intsD_comp, sh_int, sh_bool, sh_none, sh_str, ev_int, ev_bool, ev_str, ev_none, ev_ni, ev_in, uIfS, evT, ev, uRet, uRetO, uRetN, uDrop, uSet, uSetO, uMove, uFrz, uNext, uBreak, uCont, uApp, uIns, uPut, uPutA, uAug, uRaise, uVar, uC, uOp, uUn, uTru, uTst, uNot, uAnd, uOr, uAndV, uOrV, uNotV, uIf, uNil, uCons, argU, uTup, uLst, allD, onDs, onD, onT, onBool, oI, oIC, oAdd, oEq, oIsN, isN_none, isN_int, isN_bool, isN_str, isN_list, isN_tup, truD, oIx, uSl, uPart, uNoP, oSl, uCB, oLen, oList, oTuple, oInt, oAbs, oAll, oAny, oSum, onB, onI, uIs, uIs2, isT, uCall, uCallP, pick, vw, vw1, okU, okX, nolU, nol, nols, startU, kOf, kQ, kT, onL, uSeqI, uRng1, uRng2, rOk, uEnum, uRep, uTupRev, uYes, ugN, ugT2, wipeU, setU, uIfQ, uRetQ, uSetQ, uPutQ, ixC, szD, List.map_cons, List.map_nil, List.length_cons, List.length_nil, List.replicate, List.cons_append, List.nil_append, List.getElem?_cons_zero, List.getElem?_cons_succ, List.set_cons_zero, List.set_cons_succ, Option.map_some, Option.map_none, List.getD, Option.getD_some, if_true, true_and, and_true, Nat.reduceAdd, Nat.reduceSub, reduceIte, Bool.false_eq_true, Bool.not_true, Bool.not_false]
  refine lc_fun (fun d => [d]) (lt_line (by omega)) (fun i d e => ⟨_, rfl, by simp, fun acc J hJ => ?_⟩) ?_
  · simp [vw_jk, at_0, at_1, at_2, at_3, at_4, ix_40, ix_41, ix_42, ix_43, boolsD_comp, intsD_comp, sh_int, sh_bool, sh_none, sh_str, ev_int, ev_bool, ev_str, ev_none, ev_ni, ev_in, uIfS, evT, ev, uRet, uRetO, uRetN, uDrop, uSet, uSetO, uMove, uFrz, uNext, uBreak, uCont, uApp, uIns, uPut, uPutA, uAug, uRaise, uVar, uC, uOp, uUn, uTru, uTst, uNot, uAnd, uOr, uAndV, uOrV, uNotV, uIf, uNil, uCons, argU, uTup, uLst, allD, onDs, onD, onT, onBool, oI, oIC, oAdd, oEq, oIsN, isN_none, isN_int, isN_bool, isN_str, isN_list, isN_tup, truD, oIx, uSl, uPart, uNoP, oSl, uCB, oLen, oList, oTuple, oInt, oAbs, oAll, oAny, oSum, onB, onI, uIs, uIs2, isT, uCall, uCallP, pick, vw, vw1, okU, okX, nolU, nol, nols, startU, kOf, kQ, kT, onL, uSeqI, uRng1, uRng2, rOk, uEnum, uRep, uTupRev, uYes, ugN, ugT2, wipeU, setU, uIfQ, uRetQ, uSetQ, uPutQ, ixC, szD, List.map_cons, List.map_nil, List.length_cons, List.length_nil, List.replicate, List.cons_append, List.nil_append, List.getElem?_cons_zero, List.getElem?_cons_succ, List.set_cons_zero, List.set_cons_succ, Option.map_some, Option.map_none, List.getD, Option.getD_some, if_true, true_and, and_true, Nat.reduceAdd, Nat.reduceSub, reduceIte, Bool.false_eq_true, Bool.not_true, Bool.not_false]; exact hJ
  rw [flat_one, List.map_id']
  simp [vw_jk, at_0, at_1, at_2, at_3, at_4, ix_40, ix_41, ix_42, ix_43, boolsD_comp, intsD_comp, sh_int, sh_bool, sh_none, sh_str, ev_int, ev_bool, ev_str, ev_none, ev_ni, ev_in, uIfS, evT, ev, uRet, uRetO, uRetN, uDrop, uSet, uSetO, uMove, uFrz, uNext, uBreak, uCont, uApp, uIns, uPut, uPutA, uAug, uRaise, uVar, uC, uOp, uUn, uTru, uTst, uNot, uAnd, uOr, uAndV, uOrV, uNotV, uIf, uNil, uCons, argU, uTup, uLst, allD, onDs, onD, onT, onBool, oI, oIC, oAdd, oEq, oIsN, isN_none, isN_int, isN_bool, isN_str, isN_list, isN_tup, truD, oIx, uSl, uPart, uNoP, oSl, uCB, oLen, oList, oTuple, oInt, oAbs, oAll, oAny, oSum, onB, onI, uIs, uIs2, isT, uCall, uCallP, pick, vw, vw1, okU, okX, nolU, nol, nols, startU, kOf, kQ, kT, onL, uSeqI, uRng1, uRng2, rOk, uEnum, uRep, uTupRev, uYes, ugN, ugT2, wipeU, setU, uIfQ, uRetQ, uSetQ, uPutQ, ixC, szD, List.map_cons, List.map_nil, List.length_cons, List.length_nil, List.replicate, List.cons_append, List.nil_append, List.getElem?_cons_zero, List.getElem?_cons_succ, List.set_cons_zero, List.set_cons_succ, Option.map_some, Option.map_none, List.getD, Option.getD_some, if_true, true_and, and_true, Nat.reduceAdd, Nat.reduceSub, reduceIte, Bool.false_eq_true, Bool.not_true, Bool.not_false, c4]
  refine ⟨by decide, lt_line (by omega), by decide, ?_⟩
  rw [hN2]
  have o0 : ∀ o ∈ ([.list l, .tuple (l ++ [.int 0]), .tuple l.tail, .none, .str "row", .int 0, .tuple []] : List D), Odd l b o := fun o ho => by
    have e : l.tail = l.drop 1 := by simp
    rw [e] at ho
    simp at ho
    rcases ho with h | h | h | h | h | h | h
    · exact .inl h
    · exact .inr (.inl h)
    · exact .inr (.inr (.inl (by rw [h]; simp)))
    · exact .inr (.inr (.inr (.inl h)))
    · exact .inr (.inr (.inr (.inr (.inl h))))
    · exact .inr (.inr (.inr (.inr (.inr (.inl h)))))
    · exact .inr (.inr (.inr (.inr (.inr (.inr (.inl h))))))
  refine i_seq fun N3 hN3 => ?_
  refine i_for ?_
  simp [vw_jk, at_0, at_1, at_2, at_3, at_4, ix_40, ix_41, ix_42, ix_43, boolsD_comp, intsD_comp, sh_int, sh_bool, sh_none, sh_str, ev_int, ev_bool, ev_str, ev_none, ev_ni, ev_in, uIfS, evT, ev, uRet, uRetO, uRetN, uDrop, uSet, uSetO, uMove, uFrz, uNext, uBreak, uCont, uApp, uIns, uPut, uPutA, uAug, uRaise, uVar, uC, uOp, uUn, uTru, uTst, uNot, uAnd, uOr, uAndV, uOrV, uNotV, uIf, uNil, uCons, argU, uTup, uLst, allD, onDs, onD, onT, onBool, oI, oIC, oAdd, oEq, oIsN, isN_none, isN_int, isN_bool, isN_str, isN_list, isN_tup, truD, oIx, uSl, uPart, uNoP, oSl, uCB, oLen, oList, oTuple, oInt, oAbs, oAll, oAny, oSum, onB, onI, uIs, uIs2, isT, uCall, uCallP, pick, vw, vw1, okU, okX, nolU, nol, nols, startU, kOf, kQ, kT, onL, uSeqI, uRng1, uRng2, rOk, uEnum, uRep, uTupRev, uYes, ugN, ugT2, wipeU, setU, uIfQ, uRetQ, uSetQ, uPutQ, ixC, szD, List.map_cons, List.map_nil, List.length_cons, List.length_nil, List.replicate, List.cons_append, List.nil_append, List.getElem?_cons_zero, List.getElem?_cons_succ, List.set_cons_zero, List.set_cons_succ, Option.map_some, Option.map_none, List.getD, Option.getD_some, if_true, true_and, and_true, Nat.reduceAdd, Nat.reduceSub, reduceIte, Bool.false_eq_true, Bool.not_true, Bool.not_false]
  refine ⟨by decide, by decide, lt_line (by omega), fun i s' => ∃ (os : List D) (o6 : Option D), s' = [some (.hold HVk), some (.d (.tuple l)), some (.d (.tuple b)), some (.d (.int k)), some (.own os), none, jk o6] ∧ os.length = 7 + i ∧ ∀ o ∈ os, Odd l b o, ⟨_, none, rfl, rfl, o0⟩, fun i d s' e hs2 => ?_, fun s' hs2 => ?_⟩
  · obtain ⟨os, o6, rfl, hos, hall⟩ := hs2
    have hd : d ∈ b ++ six := List.mem_of_getElem? e
    have hi : i < (b ++ six).length := (List.getElem?_eq_some_iff.mp e).1
    have hi2 : i < b.length + 6 := by rw [List.length_append] at hi; exact hi
    simp [vw_jk, at_0, at_1, at_2, at_3, at_4, ix_40, ix_41, ix_42, ix_43, boolsD_comp, intsD_comp, sh_int, sh_bool, sh_none, sh_str, ev_int, ev_bool, ev_str, ev_none, ev_ni, ev_in, uIfS, evT, ev, uRet, uRetO, uRetN, uDrop, uSet, uSetO, uMove, uFrz, uNext, uBreak, uCont, uApp, uIns, uPut, uPutA, uAug, uRaise, uVar, uC, uOp, uUn, uTru, uTst, uNot, uAnd, uOr, uAndV, uOrV, uNotV, uIf, uNil, uCons, argU, uTup, uLst, allD, onDs, onD, onT, onBool, oI, oIC, oAdd, oEq, oIsN, isN_none, isN_int, isN_bool, isN_str, isN_list, isN_tup, truD, oIx, uSl, uPart, uNoP, oSl, uCB, oLen, oList, oTuple, oInt, oAbs, oAll, oAny, oSum, onB, onI, uIs, uIs2, isT, uCall, uCallP, pick, vw, vw1, okU, okX, nolU, nol, nols, startU, kOf, kQ, kT, onL, uSeqI, uRng1, uRng2, rOk, uEnum, uRep, uTupRev, uYes, ugN, ugT2, wipeU, setU, uIfQ, uRetQ, uSetQ, uPutQ, ixC, szD, List.map_cons, List.map_nil, List.length_cons, List.length_nil, List.replicate, List.cons_append, List.nil_append, List.getElem?_cons_zero, List.getElem?_cons_succ, List.set_cons_zero, List.set_cons_succ, Option.map_some, Option.map_none, List.getD, Option.getD_some, if_true, true_and, and_true, Nat.reduceAdd, Nat.reduceSub, reduceIte, Bool.false_eq_true, Bool.not_true, Bool.not_false, c2, c3]
    refine ⟨by decide, lt_line (by omega), lt_line (by omega), lt_line' (by omega), os ++ [.tuple (l.take k ++ d :: l.drop (k + 1))], ⟨rfl, some _, rfl⟩, by simp; omega, fun o ho => ?_⟩
    rcases List.mem_append.mp ho with h | h
    · exact hall o h
    · have : o = .tuple (l.take k ++ d :: l.drop (k + 1)) := by simpa using h
      exact .inr (.inr (.inr (.inr (.inr (.inr (.inr ⟨k, hk, d, hd, by rw [this]; simp⟩))))))
  · obtain ⟨os, o6, rfl, _, hall⟩ := hs2
    rw [hN3]
    simp [vw_jk, at_0, at_1, at_2, at_3, at_4, ix_40, ix_41, ix_42, ix_43, boolsD_comp, intsD_comp, sh_int, sh_bool, sh_none, sh_str, ev_int, ev_bool, ev_str, ev_none, ev_ni, ev_in, uIfS, evT, ev, uRet, uRetO, uRetN, uDrop, uSet, uSetO, uMove, uFrz, uNext, uBreak, uCont, uApp, uIns, uPut, uPutA, uAug, uRaise, uVar, uC, uOp, uUn, uTru, uTst, uNot, uAnd, uOr, uAndV, uOrV, uNotV, uIf, uNil, uCons, argU, uTup, uLst, allD, onDs, onD, onT, onBool, oI, oIC, oAdd, oEq, oIsN, isN_none, isN_int, isN_bool, isN_str, isN_list, isN_tup, truD, oIx, uSl, uPart, uNoP, oSl, uCB, oLen, oList, oTuple, oInt, oAbs, oAll, oAny, oSum, onB, onI, uIs, uIs2, isT, uCall, uCallP, pick, vw, vw1, okU, okX, nolU, nol, nols, startU, kOf, kQ, kT, onL, uSeqI, uRng1, uRng2, rOk, uEnum, uRep, uTupRev, uYes, ugN, ugT2, wipeU, setU, uIfQ, uRetQ, uSetQ, uPutQ, ixC, szD, List.map_cons, List.map_nil, List.length_cons, List.length_nil, List.replicate, List.cons_append, List.nil_append, List.getElem?_cons_zero, List.getElem?_cons_succ, List.set_cons_zero, List.set_cons_succ, Option.map_some, Option.map_none, List.getD, Option.getD_some, if_true, true_and, and_true, Nat.reduceAdd, Nat.reduceSub, reduceIte, Bool.false_eq_true, Bool.not_true, Bool.not_false]
    exact hp os hall
theorem sc__law_odd_rows : FnScope ["_law_hold", "_law_many", "_law_row", "_law_wished", "_law_which", "_law_odd"] ["_law_hold", "_law_many", "_law_row", "_law_wished"] (defScope s__law_odd_rows) := ⟨rfl, rfl, rfl, by decide +kernel, rfl, by decide +kernel, by decide +kernel⟩
theorem heard1 {K : Fr} {wh n : Int} {x y : D} {P : U → Prop} {PX : Ex → Prop} (hw : wh = 0 ∨ wh = 1) (sx : sml x) (sy : sml y) (hx : ¬ goodOne n x) (h : P (.d (refd "one"))) : fn__law_heard K [.d (.int wh), .d (.int n), .d x, .d y] P PX := by
  refine ⟨wh, n, x, y, rfl, fun _ => ?_, fun _ => ?_, fun h0 h1 => by omega⟩
  · exact ⟨n, x, y, rfl, ⟨sx, sy, fun _ => ⟨_, rfl, h⟩, fun z _ => absurd z hx⟩, fun l m e1 e2 a b c d => absurd ⟨l, e1, a, c⟩ hx⟩
  · exact ⟨n, x, y, rfl, ⟨sx, sy, fun _ => ⟨_, rfl, h⟩, fun z _ => absurd z hx⟩, fun l m e1 e2 a b c d => absurd ⟨l, e1, a, c⟩ hx⟩
theorem heard2 {K : Fr} {wh n : Int} {x y : D} {P : U → Prop} {PX : Ex → Prop} (hw : wh = 0 ∨ wh = 1) (sx : sml x) (sy : sml y) (hx : goodOne n x) (hy : ¬ goodPat n y) (h : P (.d (refd "pattern"))) : fn__law_heard K [.d (.int wh), .d (.int n), .d x, .d y] P PX := by
  refine ⟨wh, n, x, y, rfl, fun _ => ?_, fun _ => ?_, fun h0 h1 => by omega⟩
  · exact ⟨n, x, y, rfl, ⟨sx, sy, fun z => absurd hx z, fun _ _ => ⟨_, rfl, h⟩⟩, fun l m e1 e2 a b c d => absurd ⟨m, e2, b, d⟩ hy⟩
  · exact ⟨n, x, y, rfl, ⟨sx, sy, fun z => absurd hx z, fun _ _ => ⟨_, rfl, h⟩⟩, fun l m e1 e2 a b c d => absurd ⟨m, e2, b, d⟩ hy⟩
theorem okRef : (decide (0 + 1 + 1 + 1 ≤ 16777216) && (decide (("refused" : Str).length ≤ 16777216) && PyData.strOk "refused")) = true := by decide +kernel
theorem same_ref {nm : Str} (hz : nm.length ≤ 16777216) (hs : PyData.strOk nm = true) {P : U → Prop} {PX : Ex → Prop} (h : P (.d (.bool true))) : fl__law_same 6 [.d (refd nm), .d (refd nm)] P PX := by
  refine ⟨_, rfl, by simp [refd, dp, dps], ?_, h⟩
  simp only [refd, pln, plns, hz, hs, decide_true, Bool.and_true, Bool.true_and, List.length_cons, List.length_nil]
  exact okRef
theorem Odd_sml {l b : List D} {o : D} (hz : l.length ≤ 1000) (h : Odd l b o) : sml o := by
  rcases h with rfl | rfl | rfl | rfl | rfl | rfl | rfl | ⟨k, hk, x, _, rfl⟩
  · trivial
  · show (l ++ [PyData.int 0]).length ≤ 16777216; simp; omega
  · show (l.drop 1).length ≤ 16777216; simp; omega
  · trivial
  · trivial
  · trivial
  · show ([] : List D).length ≤ 16777216; simp
  · show (l.take k ++ [x] ++ l.drop (k + 1)).length ≤ 16777216; simp; omega
/-- none of them is a tuple of n items that are all p -/
theorem Odd_bad {p : D → Bool} {l b : List D} {o : D} (h0 : 0 < l.length) (hb : ∀ x ∈ b ++ six, p x = false) (h : Odd l b o) : ¬ ∃ m, o = .tuple m ∧ (m.length : Int) = l.length ∧ m.all p = true := by
  rintro ⟨m, e, hm, hp⟩
  rcases h with rfl | rfl | rfl | rfl | rfl | rfl | rfl | ⟨k, hk, x, hx, rfl⟩
  · cases e
  · cases e; simp at hm
    omega
  · cases e; rw [List.length_drop] at hm; omega
  · cases e
  · cases e
  · cases e
  · cases e; simp at hm; omega
  · cases e
    have := List.all_eq_true.mp hp x (by simp)
    rw [hb x hx] at this; cases this
def fn__law_odd_rows (K : Fr) : Fn := fun as P PX => ∃ (n : Int) (l w : List D), as = [.hold HVk, .d (.int n), .d (.tuple l), .d (.tuple w)] ∧ (l.length : Int) = n ∧ (w.length : Int) = n ∧ 0 < n ∧ n ≤ 1000 ∧ allI l = true ∧ allN w = true ∧ P (.d (.bool true))
theorem has__law_odd_rows (T : Tk P K mg) {fd__law_a_odds : FuncData} (h__law_a_odds : Has P w K mg base 2 "_law_a_odds" s__law_a_odds ["_law_hold", "_law_row", "_law_beyond"] fn__law_a_odds fd__law_a_odds) {fd__law_same : FuncData} (h__law_same : Has P w K mg base 7 "_law_same" s__law_same ["_law_got", "_law_two"] fn__law_same fd__law_same) {fd__law_heard : FuncData} (h__law_heard : Has P w K mg base 6 "_law_heard" s__law_heard ["_law_which", "_law_many", "_law_first", "_law_last"] (fn__law_heard K) fd__law_heard) : ∃ fd, Has P w K mg base 8 "_law_odd_rows" s__law_odd_rows ["_law_hold", "_law_many", "_law_row", "_law_wished"] (fn__law_odd_rows K) fd := by
  obtain ⟨fd, F⟩ := T.f__law_odd_rows
  have hb := F.binds (ps := ["_law_hold", "_law_many", "_law_row", "_law_wished"]) fun _ _ _ _ _ _ us hl => match us, hl with | [_, _, _, _], _ => rfl
  refine ⟨fd, T.g__law_odd_rows, F.kp, F, hb, fnD F sc__law_odd_rows (by decide) fun cdv A outer s H E hr => ⟨_, _, (dss_cons (ds_for poD rfl (di_seqk (KK := K) (de_tup (da_cons de_int (da_cons de_int da_nil)))) (dg_name 4 sc__law_odd_rows.nd) (dss_cons (ds_for poD rfl (di_seqk (KK := K) (de_own h__law_a_odds ⟨rfl, rfl, rfl, rfl, rfl⟩ (hr.mono (by decide)) rfl airD (da_cons (dv 0) (da_cons (dv 2) (da_cons (de_tup (da_cons de_non da_nil)) da_nil))))) (dg_name 5 sc__law_odd_rows.nd) (dss_one (ds_if false (dt_not (dt_truk (KK := K) (de_own h__law_same ⟨rfl, rfl, rfl, rfl, rfl⟩ (hr.mono (by decide)) rfl airD (da_cons (de_own h__law_heard ⟨rfl, rfl, rfl, rfl, rfl⟩ (hr.mono (by decide)) rfl airD (da_cons (dv 4) (da_cons (dv 1) (da_cons (dv 5) (da_cons de_non da_nil))))) (da_cons (de_tup (da_cons de_str (da_cons de_str (da_cons (de_un du_neg de_int) da_nil)))) da_nil))))) (dss_one (ds_ret false de_bl)) dss_nil)))
    (dss_one (ds_for poD rfl (di_seqk (KK := K) (de_own h__law_a_odds ⟨rfl, rfl, rfl, rfl, rfl⟩ (hr.mono (by decide)) rfl airD (da_cons (dv 0) (da_cons (dv 3) (da_cons (de_tup da_nil) da_nil))))) (dg_name 5 sc__law_odd_rows.nd) (dss_one (ds_if false (dt_not (dt_truk (KK := K) (de_own h__law_same ⟨rfl, rfl, rfl, rfl, rfl⟩ (hr.mono (by decide)) rfl airD (da_cons (de_own h__law_heard ⟨rfl, rfl, rfl, rfl, rfl⟩ (hr.mono (by decide)) rfl airD (da_cons (dv 4) (da_cons (dv 1) (da_cons (dv 2) (da_cons (dv 5) da_nil))))) (da_cons (de_tup (da_cons de_str (da_cons de_str (da_cons (de_un du_neg de_int) da_nil)))) da_nil))))) (dss_one (ds_ret false de_bl)) dss_nil))))))
    (dss_one (ds_ret false de_bl))), ?_⟩⟩
  rintro as Q PX hl ⟨n, l, w, rfl, hn, hw, h0, hz, al, aw, hp⟩
  refine i_seq fun N hN => ?_
  refine i_for ?_
  simp [vw_jk, at_0, at_1, at_2, at_3, at_4, ix_40, ix_41, ix_42, ix_43, boolsD_comp, intsD_comp, sh_int, sh_bool, sh_none, sh_str, ev_int, ev_bool, ev_str, ev_none, ev_ni, ev_in, uIfS, evT, ev, uRet, uRetO, uRetN, uDrop, uSet, uSetO, uMove, uFrz, uNext, uBreak, uCont, uApp, uIns, uPut, uPutA, uAug, uRaise, uVar, uC, uOp, uUn, uTru, uTst, uNot, uAnd, uOr, uAndV, uOrV, uNotV, uIf, uNil, uCons, argU, uTup, uLst, allD, onDs, onD, onT, onBool, oI, oIC, oAdd, oEq, oIsN, isN_none, isN_int, isN_bool, isN_str, isN_list, isN_tup, truD, oIx, uSl, uPart, uNoP, oSl, uCB, oLen, oList, oTuple, oInt, oAbs, oAll, oAny, oSum, onB, onI, uIs, uIs2, isT, uCall, uCallP, pick, vw, vw1, okU, okX, nolU, nol, nols, startU, kOf, kQ, kT, onL, uSeqI, uRng1, uRng2, rOk, uEnum, uRep, uTupRev, uYes, ugN, ugT2, wipeU, setU, uIfQ, uRetQ, uSetQ, uPutQ, ixC, szD, List.map_cons, List.map_nil, List.length_cons, List.length_nil, List.replicate, List.cons_append, List.nil_append, List.getElem?_cons_zero, List.getElem?_cons_succ, List.set_cons_zero, List.set_cons_succ, Option.map_some, Option.map_none, List.getD, Option.getD_some, if_true, true_and, and_true, Nat.reduceAdd, Nat.reduceSub, reduceIte, Bool.false_eq_true, Bool.not_true, Bool.not_false]
  refine ⟨two_line, fun i s' => ∃ (o4 o5 : Option D), s' = [some (.hold HVk), some (.d (.int n)), some (.d (.tuple l)), some (.d (.tuple w)), jk o4, jk o5], ⟨none, none, rfl⟩, fun i d s' e hs2 => ?_, fun s' hs2 => ?_⟩
  · obtain ⟨o4, o5, rfl⟩ := hs2
    obtain ⟨wh, rfl, hwh⟩ : ∃ wh : Int, d = .int wh ∧ (wh = 0 ∨ wh = 1) := by
      match i, e with
      | 0, e => simp at e; exact ⟨0, e.symm, .inl rfl⟩
      | 1, e => simp at e; exact ⟨1, e.symm, .inr rfl⟩
      | i + 2, e => simp at e
    refine i_seq fun N2 hN2 => ?_
    refine i_for ?_
    simp [vw_jk, at_0, at_1, at_2, at_3, at_4, ix_40, ix_41, ix_42, ix_43, boolsD_comp, intsD_comp, sh_int, sh_bool, sh_none, sh_str, ev_int, ev_bool, ev_str, ev_none, ev_ni, ev_in, uIfS, evT, ev, uRet, uRetO, uRetN, uDrop, uSet, uSetO, uMove, uFrz, uNext, uBreak, uCont, uApp, uIns, uPut, uPutA, uAug, uRaise, uVar, uC, uOp, uUn, uTru, uTst, uNot, uAnd, uOr, uAndV, uOrV, uNotV, uIf, uNil, uCons, argU, uTup, uLst, allD, onDs, onD, onT, onBool, oI, oIC, oAdd, oEq, oIsN, isN_none, isN_int, isN_bool, isN_str, isN_list, isN_tup, truD, oIx, uSl, uPart, uNoP, oSl, uCB, oLen, oList, oTuple, oInt, oAbs, oAll, oAny, oSum, onB, onI, uIs, uIs2, isT, uCall, uCallP, pick, vw, vw1, okU, okX, nolU, nol, nols, startU, kOf, kQ, kT, onL, uSeqI, uRng1, uRng2, rOk, uEnum, uRep, uTupRev, uYes, ugN, ugT2, wipeU, setU, uIfQ, uRetQ, uSetQ, uPutQ, ixC, szD, List.map_cons, List.map_nil, List.length_cons, List.length_nil, List.replicate, List.cons_append, List.nil_append, List.getElem?_cons_zero, List.getElem?_cons_succ, List.set_cons_zero, List.set_cons_succ, Option.map_some, Option.map_none, List.getD, Option.getD_some, if_true, true_and, and_true, Nat.reduceAdd, Nat.reduceSub, reduceIte, Bool.false_eq_true, Bool.not_true, Bool.not_false]
    refine ⟨by decide, l, [.none], rfl, by omega, by omega, by decide, fun os hos => ?_⟩
    simp [vw_jk, at_0, at_1, at_2, at_3, at_4, ix_40, ix_41, ix_42, ix_43, boolsD_comp, intsD_comp, sh_int, sh_bool, sh_none, sh_str, ev_int, ev_bool, ev_str, ev_none, ev_ni, ev_in, uIfS, evT, ev, uRet, uRetO, uRetN, uDrop, uSet, uSetO, uMove, uFrz, uNext, uBreak, uCont, uApp, uIns, uPut, uPutA, uAug, uRaise, uVar, uC, uOp, uUn, uTru, uTst, uNot, uAnd, uOr, uAndV, uOrV, uNotV, uIf, uNil, uCons, argU, uTup, uLst, allD, onDs, onD, onT, onBool, oI, oIC, oAdd, oEq, oIsN, isN_none, isN_int, isN_bool, isN_str, isN_list, isN_tup, truD, oIx, uSl, uPart, uNoP, oSl, uCB, oLen, oList, oTuple, oInt, oAbs, oAll, oAny, oSum, onB, onI, uIs, uIs2, isT, uCall, uCallP, pick, vw, vw1, okU, okX, nolU, nol, nols, startU, kOf, kQ, kT, onL, uSeqI, uRng1, uRng2, rOk, uEnum, uRep, uTupRev, uYes, ugN, ugT2, wipeU, setU, uIfQ, uRetQ, uSetQ, uPutQ, ixC, szD, List.map_cons, List.map_nil, List.length_cons, List.length_nil, List.replicate, List.cons_append, List.nil_append, List.getElem?_cons_zero, List.getElem?_cons_succ, List.set_cons_zero, List.set_cons_succ, Option.map_some, Option.map_none, List.getD, Option.getD_some, if_true, true_and, and_true, Nat.reduceAdd, Nat.reduceSub, reduceIte, Bool.false_eq_true, Bool.not_true, Bool.not_false]
    refine ⟨fun i s' => ∃ (o5 : Option D), s' = [some (.hold HVk), some (.d (.int n)), some (.d (.tuple l)), some (.d (.tuple w)), some (.d (.int wh)), jk o5], ⟨o5, rfl⟩, fun i d s' e hs3 => ?_, fun s' hs3 => ?_⟩
    · obtain ⟨o5, rfl⟩ := hs3
      have ho := hos d (List.mem_of_getElem? e)
      simp [vw_jk, at_0, at_1, at_2, at_3, at_4, ix_40, ix_41, ix_42, ix_43, boolsD_comp, intsD_comp, sh_int, sh_bool, sh_none, sh_str, ev_int, ev_bool, ev_str, ev_none, ev_ni, ev_in, uIfS, evT, ev, uRet, uRetO, uRetN, uDrop, uSet, uSetO, uMove, uFrz, uNext, uBreak, uCont, uApp, uIns, uPut, uPutA, uAug, uRaise, uVar, uC, uOp, uUn, uTru, uTst, uNot, uAnd, uOr, uAndV, uOrV, uNotV, uIf, uNil, uCons, argU, uTup, uLst, allD, onDs, onD, onT, onBool, oI, oIC, oAdd, oEq, oIsN, isN_none, isN_int, isN_bool, isN_str, isN_list, isN_tup, truD, oIx, uSl, uPart, uNoP, oSl, uCB, oLen, oList, oTuple, oInt, oAbs, oAll, oAny, oSum, onB, onI, uIs, uIs2, isT, uCall, uCallP, pick, vw, vw1, okU, okX, nolU, nol, nols, startU, kOf, kQ, kT, onL, uSeqI, uRng1, uRng2, rOk, uEnum, uRep, uTupRev, uYes, ugN, ugT2, wipeU, setU, uIfQ, uRetQ, uSetQ, uPutQ, ixC, szD, List.map_cons, List.map_nil, List.length_cons, List.length_nil, List.replicate, List.cons_append, List.nil_append, List.getElem?_cons_zero, List.getElem?_cons_succ, List.set_cons_zero, List.set_cons_succ, Option.map_some, Option.map_none, List.getD, Option.getD_some, if_true, true_and, and_true, Nat.reduceAdd, Nat.reduceSub, reduceIte, Bool.false_eq_true, Bool.not_true, Bool.not_false]
      refine heard1 hwh (Odd_sml (by omega) ho) trivial (fun ⟨m, e1, e2, e3⟩ => Odd_bad (p := isI) (by omega) (by decide) ho ⟨m, e1, by omega, e3⟩) ?_
      simp [vw_jk, at_0, at_1, at_2, at_3, at_4, ix_40, ix_41, ix_42, ix_43, boolsD_comp, intsD_comp, sh_int, sh_bool, sh_none, sh_str, ev_int, ev_bool, ev_str, ev_none, ev_ni, ev_in, uIfS, evT, ev, uRet, uRetO, uRetN, uDrop, uSet, uSetO, uMove, uFrz, uNext, uBreak, uCont, uApp, uIns, uPut, uPutA, uAug, uRaise, uVar, uC, uOp, uUn, uTru, uTst, uNot, uAnd, uOr, uAndV, uOrV, uNotV, uIf, uNil, uCons, argU, uTup, uLst, allD, onDs, onD, onT, onBool, oI, oIC, oAdd, oEq, oIsN, isN_none, isN_int, isN_bool, isN_str, isN_list, isN_tup, truD, oIx, uSl, uPart, uNoP, oSl, uCB, oLen, oList, oTuple, oInt, oAbs, oAll, oAny, oSum, onB, onI, uIs, uIs2, isT, uCall, uCallP, pick, vw, vw1, okU, okX, nolU, nol, nols, startU, kOf, kQ, kT, onL, uSeqI, uRng1, uRng2, rOk, uEnum, uRep, uTupRev, uYes, ugN, ugT2, wipeU, setU, uIfQ, uRetQ, uSetQ, uPutQ, ixC, szD, List.map_cons, List.map_nil, List.length_cons, List.length_nil, List.replicate, List.cons_append, List.nil_append, List.getElem?_cons_zero, List.getElem?_cons_succ, List.set_cons_zero, List.set_cons_succ, Option.map_some, Option.map_none, List.getD, Option.getD_some, if_true, true_and, and_true, Nat.reduceAdd, Nat.reduceSub, reduceIte, Bool.false_eq_true, Bool.not_true, Bool.not_false]
      refine ⟨three_line, ?_⟩
      refine same_ref (by decide +kernel) (by decide +kernel) ?_
      simp [vw_jk, at_0, at_1, at_2, at_3, at_4, ix_40, ix_41, ix_42, ix_43, boolsD_comp, intsD_comp, sh_int, sh_bool, sh_none, sh_str, ev_int, ev_bool, ev_str, ev_none, ev_ni, ev_in, uIfS, evT, ev, uRet, uRetO, uRetN, uDrop, uSet, uSetO, uMove, uFrz, uNext, uBreak, uCont, uApp, uIns, uPut, uPutA, uAug, uRaise, uVar, uC, uOp, uUn, uTru, uTst, uNot, uAnd, uOr, uAndV, uOrV, uNotV, uIf, uNil, uCons, argU, uTup, uLst, allD, onDs, onD, onT, onBool, oI, oIC, oAdd, oEq, oIsN, isN_none, isN_int, isN_bool, isN_str, isN_list, isN_tup, truD, oIx, uSl, uPart, uNoP, oSl, uCB, oLen, oList, oTuple, oInt, oAbs, oAll, oAny, oSum, onB, onI, uIs, uIs2, isT, uCall, uCallP, pick, vw, vw1, okU, okX, nolU, nol, nols, startU, kOf, kQ, kT, onL, uSeqI, uRng1, uRng2, rOk, uEnum, uRep, uTupRev, uYes, ugN, ugT2, wipeU, setU, uIfQ, uRetQ, uSetQ, uPutQ, ixC, szD, List.map_cons, List.map_nil, List.length_cons, List.length_nil, List.replicate, List.cons_append, List.nil_append, List.getElem?_cons_zero, List.getElem?_cons_succ, List.set_cons_zero, List.set_cons_succ, Option.map_some, Option.map_none, List.getD, Option.getD_some, if_true, true_and, and_true, Nat.reduceAdd, Nat.reduceSub, reduceIte, Bool.false_eq_true, Bool.not_true, Bool.not_false]
      exact ⟨some _, rfl⟩
    · obtain ⟨o5, rfl⟩ := hs3
      rw [hN2]
      refine i_for ?_
      simp [vw_jk, at_0, at_1, at_2, at_3, at_4, ix_40, ix_41, ix_42, ix_43, boolsD_comp, intsD_comp, sh_int, sh_bool, sh_none, sh_str, ev_int, ev_bool, ev_str, ev_none, ev_ni, ev_in, uIfS, evT, ev, uRet, uRetO, uRetN, uDrop, uSet, uSetO, uMove, uFrz, uNext, uBreak, uCont, uApp, uIns, uPut, uPutA, uAug, uRaise, uVar, uC, uOp, uUn, uTru, uTst, uNot, uAnd, uOr, uAndV, uOrV, uNotV, uIf, uNil, uCons, argU, uTup, uLst, allD, onDs, onD, onT, onBool, oI, oIC, oAdd, oEq, oIsN, isN_none, isN_int, isN_bool, isN_str, isN_list, isN_tup, truD, oIx, uSl, uPart, uNoP, oSl, uCB, oLen, oList, oTuple, oInt, oAbs, oAll, oAny, oSum, onB, onI, uIs, uIs2, isT, uCall, uCallP, pick, vw, vw1, okU, okX, nolU, nol, nols, startU, kOf, kQ, kT, onL, uSeqI, uRng1, uRng2, rOk, uEnum, uRep, uTupRev, uYes, ugN, ugT2, wipeU, setU, uIfQ, uRetQ, uSetQ, uPutQ, ixC, szD, List.map_cons, List.map_nil, List.length_cons, List.length_nil, List.replicate, List.cons_append, List.nil_append, List.getElem?_cons_zero, List.getElem?_cons_succ, List.set_cons_zero, List.set_cons_succ, Option.map_some, Option.map_none, List.getD, Option.getD_some, if_true, true_and, and_true, Nat.reduceAdd, Nat.reduceSub, reduceIte, Bool.false_eq_true, Bool.not_true, Bool.not_false]
      refine ⟨w, [], rfl, by omega, by omega, by decide, fun os hos => ?_⟩
      simp [vw_jk, at_0, at_1, at_2, at_3, at_4, ix_40, ix_41, ix_42, ix_43, boolsD_comp, intsD_comp, sh_int, sh_bool, sh_none, sh_str, ev_int, ev_bool, ev_str, ev_none, ev_ni, ev_in, uIfS, evT, ev, uRet, uRetO, uRetN, uDrop, uSet, uSetO, uMove, uFrz, uNext, uBreak, uCont, uApp, uIns, uPut, uPutA, uAug, uRaise, uVar, uC, uOp, uUn, uTru, uTst, uNot, uAnd, uOr, uAndV, uOrV, uNotV, uIf, uNil, uCons, argU, uTup, uLst, allD, onDs, onD, onT, onBool, oI, oIC, oAdd, oEq, oIsN, isN_none, isN_int, isN_bool, isN_str, isN_list, isN_tup, truD, oIx, uSl, uPart, uNoP, oSl, uCB, oLen, oList, oTuple, oInt, oAbs, oAll, oAny, oSum, onB, onI, uIs, uIs2, isT, uCall, uCallP, pick, vw, vw1, okU, okX, nolU, nol, nols, startU, kOf, kQ, kT, onL, uSeqI, uRng1, uRng2, rOk, uEnum, uRep, uTupRev, uYes, ugN, ugT2, wipeU, setU, uIfQ, uRetQ, uSetQ, uPutQ, ixC, szD, List.map_cons, List.map_nil, List.length_cons, List.length_nil, List.replicate, List.cons_append, List.nil_append, List.getElem?_cons_zero, List.getElem?_cons_succ, List.set_cons_zero, List.set_cons_succ, Option.map_some, Option.map_none, List.getD, Option.getD_some, if_true, true_and, and_true, Nat.reduceAdd, Nat.reduceSub, reduceIte, Bool.false_eq_true, Bool.not_true, Bool.not_false]
      refine ⟨fun i s' => ∃ (o5 : Option D), s' = [some (.hold HVk), some (.d (.int n)), some (.d (.tuple l)), some (.d (.tuple w)), some (.d (.int wh)), jk o5], ⟨o5, rfl⟩, fun i d s' e hs3 => ?_, fun s' hs3 => ?_⟩
      · obtain ⟨o5, rfl⟩ := hs3
        have ho := hos d (List.mem_of_getElem? e)
        simp [vw_jk, at_0, at_1, at_2, at_3, at_4, ix_40, ix_41, ix_42, ix_43, boolsD_comp, intsD_comp, sh_int, sh_bool, sh_none, sh_str, ev_int, ev_bool, ev_str, ev_none, ev_ni, ev_in, uIfS, evT, ev, uRet, uRetO, uRetN, uDrop, uSet, uSetO, uMove, uFrz, uNext, uBreak, uCont, uApp, uIns, uPut, uPutA, uAug, uRaise, uVar, uC, uOp, uUn, uTru, uTst, uNot, uAnd, uOr, uAndV, uOrV, uNotV, uIf, uNil, uCons, argU, uTup, uLst, allD, onDs, onD, onT, onBool, oI, oIC, oAdd, oEq, oIsN, isN_none, isN_int, isN_bool, isN_str, isN_list, isN_tup, truD, oIx, uSl, uPart, uNoP, oSl, uCB, oLen, oList, oTuple, oInt, oAbs, oAll, oAny, oSum, onB, onI, uIs, uIs2, isT, uCall, uCallP, pick, vw, vw1, okU, okX, nolU, nol, nols, startU, kOf, kQ, kT, onL, uSeqI, uRng1, uRng2, rOk, uEnum, uRep, uTupRev, uYes, ugN, ugT2, wipeU, setU, uIfQ, uRetQ, uSetQ, uPutQ, ixC, szD, List.map_cons, List.map_nil, List.length_cons, List.length_nil, List.replicate, List.cons_append, List.nil_append, List.getElem?_cons_zero, List.getElem?_cons_succ, List.set_cons_zero, List.set_cons_succ, Option.map_some, Option.map_none, List.getD, Option.getD_some, if_true, true_and, and_true, Nat.reduceAdd, Nat.reduceSub, reduceIte, Bool.false_eq_true, Bool.not_true, Bool.not_false]
        refine heard2 hwh (by show l.length ≤ 16777216; omega) (Odd_sml (by omega) ho) ⟨l, rfl, hn, al⟩ (fun ⟨m, e1, e2, e3⟩ => Odd_bad (p := okN) (by omega) (by decide) ho ⟨m, e1, by omega, e3⟩) ?_
        simp [vw_jk, at_0, at_1, at_2, at_3, at_4, ix_40, ix_41, ix_42, ix_43, boolsD_comp, intsD_comp, sh_int, sh_bool, sh_none, sh_str, ev_int, ev_bool, ev_str, ev_none, ev_ni, ev_in, uIfS, evT, ev, uRet, uRetO, uRetN, uDrop, uSet, uSetO, uMove, uFrz, uNext, uBreak, uCont, uApp, uIns, uPut, uPutA, uAug, uRaise, uVar, uC, uOp, uUn, uTru, uTst, uNot, uAnd, uOr, uAndV, uOrV, uNotV, uIf, uNil, uCons, argU, uTup, uLst, allD, onDs, onD, onT, onBool, oI, oIC, oAdd, oEq, oIsN, isN_none, isN_int, isN_bool, isN_str, isN_list, isN_tup, truD, oIx, uSl, uPart, uNoP, oSl, uCB, oLen, oList, oTuple, oInt, oAbs, oAll, oAny, oSum, onB, onI, uIs, uIs2, isT, uCall, uCallP, pick, vw, vw1, okU, okX, nolU, nol, nols, startU, kOf, kQ, kT, onL, uSeqI, uRng1, uRng2, rOk, uEnum, uRep, uTupRev, uYes, ugN, ugT2, wipeU, setU, uIfQ, uRetQ, uSetQ, uPutQ, ixC, szD, List.map_cons, List.map_nil, List.length_cons, List.length_nil, List.replicate, List.cons_append, List.nil_append, List.getElem?_cons_zero, List.getElem?_cons_succ, List.set_cons_zero, List.set_cons_succ, Option.map_some, Option.map_none, List.getD, Option.getD_some, if_true, true_and, and_true, Nat.reduceAdd, Nat.reduceSub, reduceIte, Bool.false_eq_true, Bool.not_true, Bool.not_false]
        refine ⟨three_line, ?_⟩
        refine same_ref (by decide +kernel) (by decide +kernel) ?_
        simp [vw_jk, at_0, at_1, at_2, at_3, at_4, ix_40, ix_41, ix_42, ix_43, boolsD_comp, intsD_comp, sh_int, sh_bool, sh_none, sh_str, ev_int, ev_bool, ev_str, ev_none, ev_ni, ev_in, uIfS, evT, ev, uRet, uRetO, uRetN, uDrop, uSet, uSetO, uMove, uFrz, uNext, uBreak, uCont, uApp, uIns, uPut, uPutA, uAug, uRaise, uVar, uC, uOp, uUn, uTru, uTst, uNot, uAnd, uOr, uAndV, uOrV, uNotV, uIf, uNil, uCons, argU, uTup, uLst, allD, onDs, onD, onT, onBool, oI, oIC, oAdd, oEq, oIsN, isN_none, isN_int, isN_bool, isN_str, isN_list, isN_tup, truD, oIx, uSl, uPart, uNoP, oSl, uCB, oLen, oList, oTuple, oInt, oAbs, oAll, oAny, oSum, onB, onI, uIs, uIs2, isT, uCall, uCallP, pick, vw, vw1, okU, okX, nolU, nol, nols, startU, kOf, kQ, kT, onL, uSeqI, uRng1, uRng2, rOk, uEnum, uRep, uTupRev, uYes, ugN, ugT2, wipeU, setU, uIfQ, uRetQ, uSetQ, uPutQ, ixC, szD, List.map_cons, List.map_nil, List.length_cons, List.length_nil, List.replicate, List.cons_append, List.nil_append, List.getElem?_cons_zero, List.getElem?_cons_succ, List.set_cons_zero, List.set_cons_succ, Option.map_some, Option.map_none, List.getD, Option.getD_some, if_true, true_and, and_true, Nat.reduceAdd, Nat.reduceSub, reduceIte, Bool.false_eq_true, Bool.not_true, Bool.not_false]
        exact ⟨some _, rfl⟩
      · obtain ⟨o5, rfl⟩ := hs3
        exact ⟨some _, o5, rfl⟩
  · obtain ⟨o4, o5, rfl⟩ := hs2
    rw [hN]
    simp [vw_jk, at_0, at_1, at_2, at_3, at_4, ix_40, ix_41, ix_42, ix_43, boolsD_comp, intsD_comp, sh_int, sh_bool, sh_none, sh_str, ev_int, ev_bool, ev_str, ev_none, ev_ni, ev_in, uIfS, evT, ev, uRet, uRetO, uRetN, uDrop, uSet, uSetO, uMove, uFrz, uNext, uBreak, uCont, uApp, uIns, uPut, uPutA, uAug, uRaise, uVar, uC, uOp, uUn, uTru, uTst, uNot, uAnd, uOr, uAndV, uOrV, uNotV, uIf, uNil, uCons, argU, uTup, uLst, allD, onDs, onD, onT, onBool, oI, oIC, oAdd, oEq, oIsN, isN_none, isN_int, isN_bool, isN_str, isN_list, isN_tup, truD, oIx, uSl, uPart, uNoP, oSl, uCB, oLen, oList, oTuple, oInt, oAbs, oAll, oAny, oSum, onB, onI, uIs, uIs2, isT, uCall, uCallP, pick, vw, vw1, okU, okX, nolU, nol, nols, startU, kOf, kQ, kT, onL, uSeqI, uRng1, uRng2, rOk, uEnum, uRep, uTupRev, uYes, ugN, ugT2, wipeU, setU, uIfQ, uRetQ, uSetQ, uPutQ, ixC, szD, List.map_cons, List.map_nil, List.length_cons, List.length_nil, List.replicate, List.cons_append, List.nil_append, List.getElem?_cons_zero, List.getElem?_cons_succ, List.set_cons_zero, List.set_cons_succ, Option.map_some, Option.map_none, List.getD, Option.getD_some, if_true, true_and, and_true, Nat.reduceAdd, Nat.reduceSub, reduceIte, Bool.false_eq_true, Bool.not_true, Bool.not_false]
    exact hp
theorem sc__law_odd_throws : FnScope ["_law_hold", "_law_many", "_law_spots", "_law_k", "_law_place", "_law_odds", "_law_spot", "_law_odd"] ["_law_hold", "_law_many"] (defScope s__law_odd_throws) := ⟨rfl, rfl, rfl, by decide +kernel, rfl, by decide +kernel, by decide +kernel⟩
def FBad (n : Nat) (o : D) : Prop := sml o ∧ ¬ goodFaces n o
theorem heard3 {K : Fr} {n : Nat} {x y : D} {P : U → Prop} {PX : Ex → Prop} (h0 : 0 < n) (hn : n ≤ 1000) (hx : FBad n x) (hy : ∀ i : Int, y = .int i → i ≤ 1000) (h : P (.d (refd "faces"))) : fn__law_heard K [.d (.int 2), .d (.int n), .d x, .d y] P PX :=
  ⟨2, n, x, y, rfl, fun z => by omega, fun z => by omega, fun _ _ => ⟨n, x, y, rfl, h0, hn, hx.1, hy, fun _ => ⟨_, rfl, h⟩, fun z _ => absurd z hx.2, fun fs t e1 ne hf _ _ => absurd ⟨fs, e1, ne, hf⟩ hx.2⟩⟩
theorem heard4 {K : Fr} {n : Nat} {x y : D} {P : U → Prop} {PX : Ex → Prop} (h0 : 0 < n) (hn : n ≤ 1000) (sx : sml x) (hx : goodFaces n x) (hy2 : isNb y = false) (hy : ∀ i : Int, y = .int i → i ≤ 1000) (h : P (.d (refd "times"))) : fn__law_heard K [.d (.int 2), .d (.int n), .d x, .d y] P PX :=
  ⟨2, n, x, y, rfl, fun z => by omega, fun z => by omega, fun _ _ => ⟨n, x, y, rfl, h0, hn, sx, hy, fun z => absurd hx z, fun _ _ => ⟨_, rfl, h⟩, fun fs t e1 ne hf e2 _ => by
    rw [e2] at hy2
    have : decide ((0 : Int) ≤ (t : Int)) = false := hy2
    simp at this⟩⟩
theorem heard5 {K : Fr} {n t : Nat} {fs : List Nat} {P : U → Prop} {PX : Ex → Prop} (h0 : 0 < n) (hn : n ≤ 1000) (hz : fs.length ≤ 1000) (hf1 : 1 ≤ fs.length) (hf : ∀ f ∈ fs, f < n) (ht : t ≤ 1000) (h : P (.d (.tuple [.str "told", .tuple (tab n (hs n (pw fs t)))]))) :
    fn__law_heard K [.d (.int 2), .d (.int n), .d (.tuple (natL fs)), .d (.int t)] P PX :=
  ⟨2, n, _, _, rfl, fun z => by omega, fun z => by omega, fun _ _ => thr_call h0 hn hz hf1 hf ht h⟩
theorem bad_tuple {n : Nat} {l : List D} (hz : l.length ≤ 16777216) (hb : l = [] ∨ ∃ x ∈ l, ∀ f : Nat, f < n → x ≠ .int f) : FBad n (.tuple l) := by
  refine ⟨hz, fun ⟨fs, e, ne, hf⟩ => ?_⟩
  injection e with e
  rcases hb with rfl | ⟨x, hx, hn⟩
  · cases fs with
    | nil => exact ne rfl
    | cons a l => cases e
  · rw [e] at hx
    obtain ⟨f, f1, rfl⟩ := List.mem_map.mp hx
    exact hn f (hf f f1) rfl
theorem bad_other {n : Nat} {o : D} (h : ∀ l, o ≠ .tuple l) : FBad n o := by
  refine ⟨?_, fun ⟨fs, e, _⟩ => h _ e⟩
  cases o <;> first | trivial | exact absurd rfl (h _)
theorem same_told {n : Nat} {g : Nat → Int} (hn : n ≤ 1000) {P : U → Prop} {PX : Ex → Prop} (h : P (.d (.bool true))) : fl__law_same 6 [.d (.tuple [.str "told", .tuple (tab n g)]), .d (.tuple [.str "told", .tuple (tab n g)])] P PX := by
  refine ⟨_, rfl, ?_, ?_, h⟩
  · have := dps_map (fun a => (.int (g a) : D)) (fun _ => Nat.le_refl _) (List.range n)
    have h2 : dps (tab n g) ≤ 1 := this
    simp [dp, dps]
    omega
  · have h2 : plns (tab n g) = true := plns_map (fun a => (.int (g a) : D)) (fun _ => rfl) (List.range n)
    have h3 : (decide (("told" : Str).length ≤ 16777216) && PyData.strOk "told") = true := by decide +kernel
    have h4 : decide ((tab n g).length ≤ 16777216) = true := by rw [tab_len]; simp; omega
    simp only [pln, plns, h2, h3, h4, List.length_cons, List.length_nil, Bool.and_true, Bool.true_and]
    rfl
def fn__law_odd_throws (K : Fr) : Fn := fun as P PX => ∃ n : Nat, as = [.hold HVk, .d (.int n)] ∧ 0 < n ∧ n ≤ 1000 ∧ P (.d (.bool true))
theorem has__law_odd_throws (T : Tk P K mg) {fd__law_take : FuncData} (h__law_take : Has P w K mg base 1 "_law_take" s__law_take ["_law_hold", "_law_many"] fn__law_take fd__law_take) {fd__law_same : FuncData} (h__law_same : Has P w K mg base 7 "_law_same" s__law_same ["_law_got", "_law_two"] fn__law_same fd__law_same) {fd__law_heard : FuncData} (h__law_heard : Has P w K mg base 6 "_law_heard" s__law_heard ["_law_which", "_law_many", "_law_first", "_law_last"] (fn__law_heard K) fd__law_heard) {fd__law_listed : FuncData} (h__law_listed : Has P w K mg base 1 "_law_listed" s__law_listed ["_law_many", "_law_spots", "_law_laps"] fn__law_listed fd__law_listed) : ∃ fd, Has P w K mg base 8 "_law_odd_throws" s__law_odd_throws ["_law_hold", "_law_many"] (fn__law_odd_throws K) fd := by
  obtain ⟨fd, F⟩ := T.f__law_odd_throws
  have hb := F.binds (ps := ["_law_hold", "_law_many"]) fun _ _ _ _ _ _ us hl => match us, hl with | [_, _], _ => rfl
  refine ⟨fd, T.g__law_odd_throws, F.kp, F, hb, fnD F sc__law_odd_throws (by decide) fun cdv A outer s H E hr => ⟨_, _, (dss_cons (ds_set false 2 (de_callTy (dc_tuplek (KK := K)) rfl T.n_tuple bt_tuple (da_cons (de_lc rfl sc__law_odd_throws.nd (own := [("_law_k", 3)]) (di_rng1 (de_op (do_addk (KK := K)) de_int (de_own h__law_take ⟨rfl, rfl, rfl, rfl, rfl⟩ (hr.mono (by decide)) rfl airD (da_cons (dv 0) (da_cons de_int da_nil)))) rfl T.n_range) (blk_of (by kernel_rfl)) (fun _ _ _ _ _ => (dg_name 3 sc__law_odd_throws.nd)) (fun _ _ _ _ _ => dts_nil) (fun _ _ _ _ _ => (de_own h__law_take ⟨rfl, rfl, rfl, rfl, rfl⟩ (hr.mono (by decide)) rfl air0 (da_cons (dv 0) (da_cons (dv 1) da_nil))))) da_nil)) sc__law_odd_throws.nd)
    (dss_cons (ds_set false 4 (de_own h__law_take ⟨rfl, rfl, rfl, rfl, rfl⟩ (hr.mono (by decide)) rfl airD (da_cons (dv 0) (da_cons (de_callB (dc_lenk (KK := K)) rfl T.n_len bt_len (da_cons (dv 2) da_nil)) da_nil))) sc__law_odd_throws.nd)
    (dss_cons (ds_setO false 5 (de_lst (da_cons (de_lc rfl sc__law_odd_throws.nd (own := [("_law_spot", 6)]) (di_seqk (KK := K) (dv 2)) (blk_of (by kernel_rfl)) (fun _ _ _ _ _ => (dg_name 6 sc__law_odd_throws.nd)) (fun _ _ _ _ _ => dts_nil) (fun _ _ _ _ _ => (dv 6))) (da_cons de_non (da_cons de_str (da_cons de_int (da_cons (de_tup da_nil) (da_cons (de_tup (da_cons (dv 2) da_nil)) da_nil))))))) sc__law_odd_throws.nd)
    (dss_cons (ds_for poD rfl (di_seqk (KK := K) (de_tup (da_cons (dv 1) (da_cons (de_un du_neg de_int) (da_cons de_bl (da_cons de_bl (da_cons de_non (da_cons de_str (da_cons (de_op (do_addk (KK := K)) (dv 1) de_int) (da_cons (de_tup (da_cons de_int da_nil)) da_nil)))))))))) (dg_name 7 sc__law_odd_throws.nd) (dss_one (ds_appk (KK := K) false 5 (de_op (do_addk (KK := K)) (de_op (do_addk (KK := K)) (de_slicek (KK := K) (dv 2) do_none (do_some (dv 4))) (de_tup (da_cons (dv 7) da_nil))) (de_slicek (KK := K) (dv 2) (do_some (de_op (do_addk (KK := K)) (dv 4) de_int)) do_none)))))
    (dss_frz 5 (dss_cons (ds_for poD rfl (di_seqk (KK := K) (dv 5)) (dg_name 7 sc__law_odd_throws.nd) (dss_one (ds_if false (dt_not (dt_truk (KK := K) (de_own h__law_same ⟨rfl, rfl, rfl, rfl, rfl⟩ (hr.mono (by decide)) rfl airD (da_cons (de_own h__law_heard ⟨rfl, rfl, rfl, rfl, rfl⟩ (hr.mono (by decide)) rfl airD (da_cons de_int (da_cons (dv 1) (da_cons (dv 7) (da_cons de_non da_nil))))) (da_cons (de_tup (da_cons de_str (da_cons de_str (da_cons (de_un du_neg de_int) da_nil)))) da_nil))))) (dss_one (ds_ret false de_bl)) dss_nil)))
    (dss_cons (ds_for poD rfl (di_seqk (KK := K) (de_tup (da_cons (de_un du_neg de_int) (da_cons de_bl (da_cons de_bl (da_cons de_non (da_cons de_str (da_cons (de_tup (da_cons de_int da_nil)) (da_cons (de_lst (da_cons de_int da_nil)) (da_cons (de_un du_neg de_int) da_nil)))))))))) (dg_name 7 sc__law_odd_throws.nd) (dss_one (ds_if false (dt_not (dt_truk (KK := K) (de_own h__law_same ⟨rfl, rfl, rfl, rfl, rfl⟩ (hr.mono (by decide)) rfl airD (da_cons (de_own h__law_heard ⟨rfl, rfl, rfl, rfl, rfl⟩ (hr.mono (by decide)) rfl airD (da_cons de_int (da_cons (dv 1) (da_cons (dv 2) (da_cons (dv 7) da_nil))))) (da_cons (de_tup (da_cons de_str (da_cons de_str (da_cons (de_un du_neg de_int) da_nil)))) da_nil))))) (dss_one (ds_ret false de_bl)) dss_nil)))
    (dss_one (ds_ret false (de_own h__law_same ⟨rfl, rfl, rfl, rfl, rfl⟩ (hr.mono (by decide)) rfl airD (da_cons (de_own h__law_heard ⟨rfl, rfl, rfl, rfl, rfl⟩ (hr.mono (by decide)) rfl airD (da_cons de_int (da_cons (dv 1) (da_cons (dv 2) (da_cons de_int da_nil))))) (da_cons (de_tup (da_cons de_str (da_cons (de_own h__law_listed ⟨rfl, rfl, rfl, rfl, rfl⟩ (hr.mono (by decide)) rfl airD (da_cons (dv 1) (da_cons (dv 2) (da_cons de_int da_nil)))) da_nil))) da_nil)))))))))))), ?_⟩⟩
  rintro as Q PX hl ⟨n, rfl, h0, hn, hp⟩
  have hn0 : (0 : Int) < n := by omega
  refine i_seq fun N hN => ?_
  simp [vw_jk, at_0, at_1, at_2, at_3, at_4, ix_40, ix_41, ix_42, ix_43, boolsD_comp, intsD_comp, sh_int, sh_bool, sh_none, sh_str, ev_int, ev_bool, ev_str, ev_none, ev_ni, ev_in, uIfS, evT, ev, uRet, uRetO, uRetN, uDrop, uSet, uSetO, uMove, uFrz, uNext, uBreak, uCont, uApp, uIns, uPut, uPutA, uAug, uRaise, uVar, uC, uOp, uUn, uTru, uTst, uNot, uAnd, uOr, uAndV, uOrV, uNotV, uIf, uNil, uCons, argU, uTup, uLst, allD, onDs, onD, onT, onBool, oI, oIC, oAdd, oEq, oIsN, isN_none, isN_int, isN_bool, isN_str, isN_list, isN_tup, truD, oIx, uSl, uPart, uNoP, oSl, uCB, oLen, oList, oTuple, oInt, oAbs, oAll, oAny, oSum, onB, onI, uIs, uIs2, isT, uCall, uCallP, pick, vw, vw1, okU, okX, nolU, nol, nols, startU, kOf, kQ, kT, onL, uSeqI, uRng1, uRng2, rOk, uEnum, uRep, uTupRev, uYes, ugN, ugT2, wipeU, setU, uIfQ, uRetQ, uSetQ, uPutQ, ixC, szD, List.map_cons, List.map_nil, List.length_cons, List.length_nil, List.replicate, List.cons_append, List.nil_append, List.getElem?_cons_zero, List.getElem?_cons_succ, List.set_cons_zero, List.set_cons_succ, Option.map_some, Option.map_none, List.getD, Option.getD_some, if_true, true_and, and_true, Nat.reduceAdd, Nat.reduceSub, reduceIte, Bool.false_eq_true, Bool.not_true, Bool.not_false]
  refine i_lc ?_
  simp [vw_jk, at_0, at_1, at_2, at_3, at_4, ix_40, ix_41, ix_42, ix_43, boolsD_comp, intsD_comp, sh_int, sh_bool, sh_none, sh_str, ev_int, ev_bool, ev_str, ev_none, ev_ni, ev_in, uIfS, evT, ev, uRet, uRetO, uRetN, uDrop, uSet, uSetO, uMove, uFrz, uNext, uBreak, uCont, uApp, uIns, uPut, uPutA, uAug, uRaise, uVar, uC, uOp, uUn, uTru, uTst, uNot, uAnd, uOr, uAndV, uOrV, uNotV, uIf, uNil, uCons, argU, uTup, uLst, allD, onDs, onD, onT, onBool, oI, oIC, oAdd, oEq, oIsN, isN_none, isN_int, isN_bool, isN_str, isN_list, isN_tup, truD, oIx, uSl, uPart, uNoP, oSl, uCB, oLen, oList, oTuple, oInt, oAbs, oAll, oAny, oSum, onB, onI, uIs, uIs2, isT, uCall, uCallP, pick, vw, vw1, okU, okX, nolU, nol, nols, startU, kOf, kQ, kT, onL, uSeqI, uRng1, uRng2, rOk, uEnum, uRep, uTupRev, uYes, ugN, ugT2, wipeU, setU, uIfQ, uRetQ, uSetQ, uPutQ, ixC, szD, List.map_cons, List.map_nil, List.length_cons, List.length_nil, List.replicate, List.cons_append, List.nil_append, List.getElem?_cons_zero, List.getElem?_cons_succ, List.set_cons_zero, List.set_cons_succ, Option.map_some, Option.map_none, List.getD, Option.getD_some, if_true, true_and, and_true, Nat.reduceAdd, Nat.reduceSub, reduceIte, Bool.false_eq_true, Bool.not_true, Bool.not_false]
  refine tk (by decide) (by decide) fun m m0 m1 => ?_
  simp [vw_jk, at_0, at_1, at_2, at_3, at_4, ix_40, ix_41, ix_42, ix_43, boolsD_comp, intsD_comp, sh_int, sh_bool, sh_none, sh_str, ev_int, ev_bool, ev_str, ev_none, ev_ni, ev_in, uIfS, evT, ev, uRet, uRetO, uRetN, uDrop, uSet, uSetO, uMove, uFrz, uNext, uBreak, uCont, uApp, uIns, uPut, uPutA, uAug, uRaise, uVar, uC, uOp, uUn, uTru, uTst, uNot, uAnd, uOr, uAndV, uOrV, uNotV, uIf, uNil, uCons, argU, uTup, uLst, allD, onDs, onD, onT, onBool, oI, oIC, oAdd, oEq, oIsN, isN_none, isN_int, isN_bool, isN_str, isN_list, isN_tup, truD, oIx, uSl, uPart, uNoP, oSl, uCB, oLen, oList, oTuple, oInt, oAbs, oAll, oAny, oSum, onB, onI, uIs, uIs2, isT, uCall, uCallP, pick, vw, vw1, okU, okX, nolU, nol, nols, startU, kOf, kQ, kT, onL, uSeqI, uRng1, uRng2, rOk, uEnum, uRep, uTupRev, uYes, ugN, ugT2, wipeU, setU, uIfQ, uRetQ, uSetQ, uPutQ, ixC, szD, List.map_cons, List.map_nil, List.length_cons, List.length_nil, List.replicate, List.cons_append, List.nil_append, List.getElem?_cons_zero, List.getElem?_cons_succ, List.set_cons_zero, List.set_cons_succ, Option.map_some, Option.map_none, List.getD, Option.getD_some, if_true, true_and, and_true, Nat.reduceAdd, Nat.reduceSub, reduceIte, Bool.false_eq_true, Bool.not_true, Bool.not_false]
  refine ⟨⟨by omega, by omega⟩, ?_⟩
  refine lc_rel (fun _ _ y => ∃ z : Int, y = .int z ∧ 0 ≤ z ∧ z < (n : Int)) (by rw [rngD_len]; exact lt_line (by omega)) (fun i d e => ⟨_, rfl, by simp, fun acc J hJ => ?_⟩) (fun acc ha hr => ?_)
  · simp [vw_jk, at_0, at_1, at_2, at_3, at_4, ix_40, ix_41, ix_42, ix_43, boolsD_comp, intsD_comp, sh_int, sh_bool, sh_none, sh_str, ev_int, ev_bool, ev_str, ev_none, ev_ni, ev_in, uIfS, evT, ev, uRet, uRetO, uRetN, uDrop, uSet, uSetO, uMove, uFrz, uNext, uBreak, uCont, uApp, uIns, uPut, uPutA, uAug, uRaise, uVar, uC, uOp, uUn, uTru, uTst, uNot, uAnd, uOr, uAndV, uOrV, uNotV, uIf, uNil, uCons, argU, uTup, uLst, allD, onDs, onD, onT, onBool, oI, oIC, oAdd, oEq, oIsN, isN_none, isN_int, isN_bool, isN_str, isN_list, isN_tup, truD, oIx, uSl, uPart, uNoP, oSl, uCB, oLen, oList, oTuple, oInt, oAbs, oAll, oAny, oSum, onB, onI, uIs, uIs2, isT, uCall, uCallP, pick, vw, vw1, okU, okX, nolU, nol, nols, startU, kOf, kQ, kT, onL, uSeqI, uRng1, uRng2, rOk, uEnum, uRep, uTupRev, uYes, ugN, ugT2, wipeU, setU, uIfQ, uRetQ, uSetQ, uPutQ, ixC, szD, List.map_cons, List.map_nil, List.length_cons, List.length_nil, List.replicate, List.cons_append, List.nil_append, List.getElem?_cons_zero, List.getElem?_cons_succ, List.set_cons_zero, List.set_cons_succ, Option.map_some, Option.map_none, List.getD, Option.getD_some, if_true, true_and, and_true, Nat.reduceAdd, Nat.reduceSub, reduceIte, Bool.false_eq_true, Bool.not_true, Bool.not_false]
    refine tk hn0 (lgS (by omega)) fun b b0 b1 => ?_
    exact hJ _ ⟨b, rfl, b0, b1⟩
  obtain ⟨fs, rfl, hfs⟩ := nat_of fun i y e => by
    have hi : i < (rngD 0 (1 + m).toNat).length := by rw [← ha]; exact (List.getElem?_eq_some_iff.mp e).1
    exact hr i _ y (List.getElem?_eq_getElem hi) e
  rw [rngD_len, natL_len] at ha
  have hf1 : 1 ≤ fs.length := by omega
  have hf2 : fs.length ≤ 6 := by omega
  have hf : ∀ f ∈ fs, f < n := fun f h => by have := hfs f h; omega
  have hne : fs ≠ [] := fun z => by rw [z] at hf1; simp at hf1
  have gF : goodFaces n (.tuple (natL fs)) := ⟨fs, rfl, hne, hf⟩
  have sF : sml (.tuple (natL fs)) := by show (natL fs).length ≤ 16777216; rw [natL_len]; omega
  simp only [vw_jk, at_0, at_1, at_2, at_3, at_4, ix_40, ix_41, ix_42, ix_43, boolsD_comp, intsD_comp, sh_int, sh_bool, sh_none, sh_str, ev_int, ev_bool, ev_str, ev_none, ev_ni, ev_in, uIfS, evT, ev, uRet, uRetO, uRetN, uDrop, uSet, uSetO, uMove, uFrz, uNext, uBreak, uCont, uApp, uIns, uPut, uPutA, uAug, uRaise, uVar, uC, uOp, uUn, uTru, uTst, uNot, uAnd, uOr, uAndV, uOrV, uNotV, uIf, uNil, uCons, argU, uTup, uLst, allD, onDs, onD, onT, onBool, oI, oIC, oAdd, oEq, oIsN, isN_none, isN_int, isN_bool, isN_str, isN_list, isN_tup, truD, oIx, uSl, uPart, uNoP, oSl, uCB, oLen, oList, oTuple, oInt, oAbs, oAll, oAny, oSum, onB, onI, uIs, uIs2, isT, uCall, uCallP, pick, vw, vw1, okU, okX, nolU, nol, nols, startU, kOf, kQ, kT, onL, uSeqI, uRng1, uRng2, rOk, uEnum, uRep, uTupRev, uYes, ugN, ugT2, wipeU, setU, uIfQ, uRetQ, uSetQ, uPutQ, ixC, szD, List.map_cons, List.map_nil, List.length_cons, List.length_nil, List.replicate, List.cons_append, List.nil_append, List.getElem?_cons_zero, List.getElem?_cons_succ, List.set_cons_zero, List.set_cons_succ, Option.map_some, Option.map_none, List.getD, Option.getD_some, if_true, true_and, and_true, Nat.reduceAdd, Nat.reduceSub, reduceIte, Bool.false_eq_true, Bool.not_true, Bool.not_false]
  rw [hN]
  refine i_seq fun N2 hN2 => ?_
  simp [vw_jk, at_0, at_1, at_2, at_3, at_4, ix_40, ix_41, ix_42, ix_43, boolsD_comp, intsD_comp, sh_int, sh_bool, sh_none, sh_str, ev_int, ev_bool, ev_str, ev_none, ev_ni, ev_in, uIfS, evT, ev, uRet, uRetO, uRetN, uDrop, uSet, uSetO, uMove, uFrz, uNext, uBreak, uCont, uApp, uIns, uPut, uPutA, uAug, uRaise, uVar, uC, uOp, uUn, uTru, uTst, uNot, uAnd, uOr, uAndV, uOrV, uNotV, uIf, uNil, uCons, argU, uTup, uLst, allD, onDs, onD, onT, onBool, oI, oIC, oAdd, oEq, oIsN, isN_none, isN_int, isN_bool, isN_str, isN_list, isN_tup, truD, oIx, uSl, uPart, uNoP, oSl, uCB, oLen, oList, oTuple, oInt, oAbs, oAll, oAny, oSum, onB, onI, uIs, uIs2, isT, uCall, uCallP, pick, vw, vw1, okU, okX, nolU, nol, nols, startU, kOf, kQ, kT, onL, uSeqI, uRng1, uRng2, rOk, uEnum, uRep, uTupRev, uYes, ugN, ugT2, wipeU, setU, uIfQ, uRetQ, uSetQ, uPutQ, ixC, szD, List.map_cons, List.map_nil, List.length_cons, List.length_nil, List.replicate, List.cons_append, List.nil_append, List.getElem?_cons_zero, List.getElem?_cons_succ, List.set_cons_zero, List.set_cons_succ, Option.map_some, Option.map_none, List.getD, Option.getD_some, if_true, true_and, and_true, Nat.reduceAdd, Nat.reduceSub, reduceIte, Bool.false_eq_true, Bool.not_true, Bool.not_false]
  refine tk (by rw [natL_len]; omega) (lgS (by rw [natL_len]; omega)) fun pc p0 p1 => ?_
  rw [natL_len] at p1
  obtain ⟨k, rfl⟩ : ∃ k : Nat, pc = k := ⟨pc.toNat, by omega⟩
  have hk : k < fs.length := by omega
  simp [vw_jk, at_0, at_1, at_2, at_3, at_4, ix_40, ix_41, ix_42, ix_43, boolsD_comp, intsD_comp, sh_int, sh_bool, sh_none, sh_str, ev_int, ev_bool, ev_str, ev_none, ev_ni, ev_in, uIfS, evT, ev, uRet, uRetO, uRetN, uDrop, uSet, uSetO, uMove, uFrz, uNext, uBreak, uCont, uApp, uIns, uPut, uPutA, uAug, uRaise, uVar, uC, uOp, uUn, uTru, uTst, uNot, uAnd, uOr, uAndV, uOrV, uNotV, uIf, uNil, uCons, argU, uTup, uLst, allD, onDs, onD, onT, onBool, oI, oIC, oAdd, oEq, oIsN, isN_none, isN_int, isN_bool, isN_str, isN_list, isN_tup, truD, oIx, uSl, uPart, uNoP, oSl, uCB, oLen, oList, oTuple, oInt, oAbs, oAll, oAny, oSum, onB, onI, uIs, uIs2, isT, uCall, uCallP, pick, vw, vw1, okU, okX, nolU, nol, nols, startU, kOf, kQ, kT, onL, uSeqI, uRng1, uRng2, rOk, uEnum, uRep, uTupRev, uYes, ugN, ugT2, wipeU, setU, uIfQ, uRetQ, uSetQ, uPutQ, ixC, szD, List.map_cons, List.map_nil, List.length_cons, List.length_nil, List.replicate, List.cons_append, List.nil_append, List.getElem?_cons_zero, List.getElem?_cons_succ, List.set_cons_zero, List.set_cons_succ, Option.map_some, Option.map_none, List.getD, Option.getD_some, if_true, true_and, and_true, Nat.reduceAdd, Nat.reduceSub, reduceIte, Bool.false_eq_true, Bool.not_true, Bool.not_false]
  rw [hN2]
  refine i_seq fun N3 hN3 => ?_
  simp [vw_jk, at_0, at_1, at_2, at_3, at_4, ix_40, ix_41, ix_42, ix_43, boolsD_comp, intsD_comp, sh_int, sh_bool, sh_none, sh_str, ev_int, ev_bool, ev_str, ev_none, ev_ni, ev_in, uIfS, evT, ev, uRet, uRetO, uRetN, uDrop, uSet, uSetO, uMove, uFrz, uNext, uBreak, uCont, uApp, uIns, uPut, uPutA, uAug, uRaise, uVar, uC, uOp, uUn, uTru, uTst, uNot, uAnd, uOr, uAndV, uOrV, uNotV, uIf, uNil, uCons, argU, uTup, uLst, allD, onDs, onD, onT, onBool, oI, oIC, oAdd, oEq, oIsN, isN_none, isN_int, isN_bool, isN_str, isN_list, isN_tup, truD, oIx, uSl, uPart, uNoP, oSl, uCB, oLen, oList, oTuple, oInt, oAbs, oAll, oAny, oSum, onB, onI, uIs, uIs2, isT, uCall, uCallP, pick, vw, vw1, okU, okX, nolU, nol, nols, startU, kOf, kQ, kT, onL, uSeqI, uRng1, uRng2, rOk, uEnum, uRep, uTupRev, uYes, ugN, ugT2, wipeU, setU, uIfQ, uRetQ, uSetQ, uPutQ, ixC, szD, List.map_cons, List.map_nil, List.length_cons, List.length_nil, List.replicate, List.cons_append, List.nil_append, List.getElem?_cons_zero, List.getElem?_cons_succ, List.set_cons_zero, List.set_cons_succ, Option.map_some, Option.map_none, List.getD, Option.getD_some, if_true, true_and, and_true, Nat.reduceAdd, Nat.reduceSub, reduceIte, Bool.false_eq_true, Bool.not_true, Bool.not_false]
  refine i_lc ?_
  simp [vw_jk, at_0, at_1, at_2, at_3, at_4, ix_40, ix_41, ix_42, ix_43, boolsD_comp, intsD_comp, sh_int, sh_bool, sh_none, sh_str, ev_int, ev_bool, ev_str, ev_none, ev_ni, ev_in, uIfS, evT, ev, uRet, uRetO, uRetN, uDrop, uSet, uSetO, uMove, uFrz, uNext, uBreak, uCont, uApp, uIns, uPut, uPutA, uAug, uRaise, uVar, uC, uOp, uUn, uTru, uTst, uNot, uAnd, uOr, uAndV, uOrV, uNotV, uIf, uNil, uCons, argU, uTup, uLst, allD, onDs, onD, onT, onBool, oI, oIC, oAdd, oEq, oIsN, isN_none, isN_int, isN_bool, isN_str, isN_list, isN_tup, truD, oIx, uSl, uPart, uNoP, oSl, uCB, oLen, oList, oTuple, oInt, oAbs, oAll, oAny, oSum, onB, onI, uIs, uIs2, isT, uCall, uCallP, pick, vw, vw1, okU, okX, nolU, nol, nols, startU, kOf, kQ, kT, onL, uSeqI, uRng1, uRng2, rOk, uEnum, uRep, uTupRev, uYes, ugN, ugT2, wipeU, setU, uIfQ, uRetQ, uSetQ, uPutQ, ixC, szD, List.map_cons, List.map_nil, List.length_cons, List.length_nil, List.replicate, List.cons_append, List.nil_append, List.getElem?_cons_zero, List.getElem?_cons_succ, List.set_cons_zero, List.set_cons_succ, Option.map_some, Option.map_none, List.getD, Option.getD_some, if_true, true_and, and_true, Nat.reduceAdd, Nat.reduceSub, reduceIte, Bool.false_eq_true, Bool.not_true, Bool.not_false]
  refine lc_fun (fun d => [d]) (lt_line (by rw [natL_len]; omega)) (fun i d e => ⟨_, rfl, by simp, fun acc J hJ => ?_⟩) ?_
  · simp [vw_jk, at_0, at_1, at_2, at_3, at_4, ix_40, ix_41, ix_42, ix_43, boolsD_comp, intsD_comp, sh_int, sh_bool, sh_none, sh_str, ev_int, ev_bool, ev_str, ev_none, ev_ni, ev_in, uIfS, evT, ev, uRet, uRetO, uRetN, uDrop, uSet, uSetO, uMove, uFrz, uNext, uBreak, uCont, uApp, uIns, uPut, uPutA, uAug, uRaise, uVar, uC, uOp, uUn, uTru, uTst, uNot, uAnd, uOr, uAndV, uOrV, uNotV, uIf, uNil, uCons, argU, uTup, uLst, allD, onDs, onD, onT, onBool, oI, oIC, oAdd, oEq, oIsN, isN_none, isN_int, isN_bool, isN_str, isN_list, isN_tup, truD, oIx, uSl, uPart, uNoP, oSl, uCB, oLen, oList, oTuple, oInt, oAbs, oAll, oAny, oSum, onB, onI, uIs, uIs2, isT, uCall, uCallP, pick, vw, vw1, okU, okX, nolU, nol, nols, startU, kOf, kQ, kT, onL, uSeqI, uRng1, uRng2, rOk, uEnum, uRep, uTupRev, uYes, ugN, ugT2, wipeU, setU, uIfQ, uRetQ, uSetQ, uPutQ, ixC, szD, List.map_cons, List.map_nil, List.length_cons, List.length_nil, List.replicate, List.cons_append, List.nil_append, List.getElem?_cons_zero, List.getElem?_cons_succ, List.set_cons_zero, List.set_cons_succ, Option.map_some, Option.map_none, List.getD, Option.getD_some, if_true, true_and, and_true, Nat.reduceAdd, Nat.reduceSub, reduceIte, Bool.false_eq_true, Bool.not_true, Bool.not_false]; exact hJ
  rw [flat_one, List.map_id']
  simp [vw_jk, at_0, at_1, at_2, at_3, at_4, ix_40, ix_41, ix_42, ix_43, boolsD_comp, intsD_comp, sh_int, sh_bool, sh_none, sh_str, ev_int, ev_bool, ev_str, ev_none, ev_ni, ev_in, uIfS, evT, ev, uRet, uRetO, uRetN, uDrop, uSet, uSetO, uMove, uFrz, uNext, uBreak, uCont, uApp, uIns, uPut, uPutA, uAug, uRaise, uVar, uC, uOp, uUn, uTru, uTst, uNot, uAnd, uOr, uAndV, uOrV, uNotV, uIf, uNil, uCons, argU, uTup, uLst, allD, onDs, onD, onT, onBool, oI, oIC, oAdd, oEq, oIsN, isN_none, isN_int, isN_bool, isN_str, isN_list, isN_tup, truD, oIx, uSl, uPart, uNoP, oSl, uCB, oLen, oList, oTuple, oInt, oAbs, oAll, oAny, oSum, onB, onI, uIs, uIs2, isT, uCall, uCallP, pick, vw, vw1, okU, okX, nolU, nol, nols, startU, kOf, kQ, kT, onL, uSeqI, uRng1, uRng2, rOk, uEnum, uRep, uTupRev, uYes, ugN, ugT2, wipeU, setU, uIfQ, uRetQ, uSetQ, uPutQ, ixC, szD, List.map_cons, List.map_nil, List.length_cons, List.length_nil, List.replicate, List.cons_append, List.nil_append, List.getElem?_cons_zero, List.getElem?_cons_succ, List.set_cons_zero, List.set_cons_succ, Option.map_some, Option.map_none, List.getD, Option.getD_some, if_true, true_and, and_true, Nat.reduceAdd, Nat.reduceSub, reduceIte, Bool.false_eq_true, Bool.not_true, Bool.not_false]
  have c1 : cutD (natL fs) (some ((k : Int) + 1)) none = (natL fs).drop (k + 1) := by
    unfold cutD
    rw [show ((k : Int) + 1) = ((k + 1 : Nat) : Int) by push_cast; rfl, HT.sIx_nat, HT.sIx_none, Nat.min_eq_left (by rw [natL_len]; omega)]
    exact List.take_of_length_le (by simp)
  have c2 : cutD (natL fs) none (some (k : Int)) = (natL fs).take k := by
    unfold cutD
    rw [HT.sIx_nat, HT.sIx_none, Nat.min_eq_left (by rw [natL_len]; omega)]
    simp
  refine ⟨by decide, by decide, ?_⟩
  rw [hN3]
  have o0 : ∀ o ∈ ([.list (natL fs), .none, .str "faces", .int 0, .tuple [], .tuple [.tuple (natL fs)]] : List D), FBad n o := fun o ho => by
    simp at ho
    rcases ho with rfl | rfl | rfl | rfl | rfl | rfl
    · exact bad_other (fun _ z => by cases z)
    · exact bad_other (fun _ z => by cases z)
    · exact bad_other (fun _ z => by cases z)
    · exact bad_other (fun _ z => by cases z)
    · exact bad_tuple (by decide) (.inl rfl)
    · exact bad_tuple (by simp) (.inr ⟨_, .head _, fun f _ z => by cases z⟩)
  refine i_seq fun N4 hN4 => ?_
  refine i_for ?_
  simp [vw_jk, at_0, at_1, at_2, at_3, at_4, ix_40, ix_41, ix_42, ix_43, boolsD_comp, intsD_comp, sh_int, sh_bool, sh_none, sh_str, ev_int, ev_bool, ev_str, ev_none, ev_ni, ev_in, uIfS, evT, ev, uRet, uRetO, uRetN, uDrop, uSet, uSetO, uMove, uFrz, uNext, uBreak, uCont, uApp, uIns, uPut, uPutA, uAug, uRaise, uVar, uC, uOp, uUn, uTru, uTst, uNot, uAnd, uOr, uAndV, uOrV, uNotV, uIf, uNil, uCons, argU, uTup, uLst, allD, onDs, onD, onT, onBool, oI, oIC, oAdd, oEq, oIsN, isN_none, isN_int, isN_bool, isN_str, isN_list, isN_tup, truD, oIx, uSl, uPart, uNoP, oSl, uCB, oLen, oList, oTuple, oInt, oAbs, oAll, oAny, oSum, onB, onI, uIs, uIs2, isT, uCall, uCallP, pick, vw, vw1, okU, okX, nolU, nol, nols, startU, kOf, kQ, kT, onL, uSeqI, uRng1, uRng2, rOk, uEnum, uRep, uTupRev, uYes, ugN, ugT2, wipeU, setU, uIfQ, uRetQ, uSetQ, uPutQ, ixC, szD, List.map_cons, List.map_nil, List.length_cons, List.length_nil, List.replicate, List.cons_append, List.nil_append, List.getElem?_cons_zero, List.getElem?_cons_succ, List.set_cons_zero, List.set_cons_succ, Option.map_some, Option.map_none, List.getD, Option.getD_some, if_true, true_and, and_true, Nat.reduceAdd, Nat.reduceSub, reduceIte, Bool.false_eq_true, Bool.not_true, Bool.not_false]
  have e8 : ∀ x ∈ ([.int n, .int (-1), .bool true, .bool false, .none, .str "0", .int (n + 1), .tuple [.int 0]] : List D), ∀ f : Nat, f < n → x ≠ .int f := fun x hx f hf z => by
    subst z
    simp at hx
    omega
  refine ⟨by decide, by decide, fun i s' => ∃ (os : List D) (o7 : Option D), s' = [some (.hold HVk), some (.d (.int n)), some (.d (.tuple (natL fs))), none, some (.d (.int k)), some (.own os), none, jk o7] ∧ os.length = 6 + i ∧ ∀ o ∈ os, FBad n o, ⟨_, none, rfl, rfl, o0⟩, fun i d s' e hs2 => ?_, fun s' hs2 => ?_⟩
  · obtain ⟨os, o7, rfl, hos, hall⟩ := hs2
    have hd := e8 d (List.mem_of_getElem? e)
    have hi := (List.getElem?_eq_some_iff.mp e).1
    simp at hi
    simp [vw_jk, at_0, at_1, at_2, at_3, at_4, ix_40, ix_41, ix_42, ix_43, boolsD_comp, intsD_comp, sh_int, sh_bool, sh_none, sh_str, ev_int, ev_bool, ev_str, ev_none, ev_ni, ev_in, uIfS, evT, ev, uRet, uRetO, uRetN, uDrop, uSet, uSetO, uMove, uFrz, uNext, uBreak, uCont, uApp, uIns, uPut, uPutA, uAug, uRaise, uVar, uC, uOp, uUn, uTru, uTst, uNot, uAnd, uOr, uAndV, uOrV, uNotV, uIf, uNil, uCons, argU, uTup, uLst, allD, onDs, onD, onT, onBool, oI, oIC, oAdd, oEq, oIsN, isN_none, isN_int, isN_bool, isN_str, isN_list, isN_tup, truD, oIx, uSl, uPart, uNoP, oSl, uCB, oLen, oList, oTuple, oInt, oAbs, oAll, oAny, oSum, onB, onI, uIs, uIs2, isT, uCall, uCallP, pick, vw, vw1, okU, okX, nolU, nol, nols, startU, kOf, kQ, kT, onL, uSeqI, uRng1, uRng2, rOk, uEnum, uRep, uTupRev, uYes, ugN, ugT2, wipeU, setU, uIfQ, uRetQ, uSetQ, uPutQ, ixC, szD, List.map_cons, List.map_nil, List.length_cons, List.length_nil, List.replicate, List.cons_append, List.nil_append, List.getElem?_cons_zero, List.getElem?_cons_succ, List.set_cons_zero, List.set_cons_succ, Option.map_some, Option.map_none, List.getD, Option.getD_some, if_true, true_and, and_true, Nat.reduceAdd, Nat.reduceSub, reduceIte, Bool.false_eq_true, Bool.not_true, Bool.not_false, c1, c2]
    refine ⟨by decide, lt_line (by rw [natL_len]; omega), lt_line (by rw [natL_len]; omega), lt_line' (by omega), os ++ [.tuple ((natL fs).take k ++ d :: (natL fs).drop (k + 1))], ⟨rfl, some _, rfl⟩, by simp; omega, fun o ho => ?_⟩
    rcases List.mem_append.mp ho with h | h
    · exact hall o h
    · have e2 : o = .tuple ((natL fs).take k ++ d :: (natL fs).drop (k + 1)) := by simpa using h
      rw [e2]
      exact bad_tuple (by simp [natL_len]; omega) (.inr ⟨d, by simp, hd⟩)
  · obtain ⟨os, o7, rfl, _, hall⟩ := hs2
    rw [hN4]
    simp [vw_jk, at_0, at_1, at_2, at_3, at_4, ix_40, ix_41, ix_42, ix_43, boolsD_comp, intsD_comp, sh_int, sh_bool, sh_none, sh_str, ev_int, ev_bool, ev_str, ev_none, ev_ni, ev_in, uIfS, evT, ev, uRet, uRetO, uRetN, uDrop, uSet, uSetO, uMove, uFrz, uNext, uBreak, uCont, uApp, uIns, uPut, uPutA, uAug, uRaise, uVar, uC, uOp, uUn, uTru, uTst, uNot, uAnd, uOr, uAndV, uOrV, uNotV, uIf, uNil, uCons, argU, uTup, uLst, allD, onDs, onD, onT, onBool, oI, oIC, oAdd, oEq, oIsN, isN_none, isN_int, isN_bool, isN_str, isN_list, isN_tup, truD, oIx, uSl, uPart, uNoP, oSl, uCB, oLen, oList, oTuple, oInt, oAbs, oAll, oAny, oSum, onB, onI, uIs, uIs2, isT, uCall, uCallP, pick, vw, vw1, okU, okX, nolU, nol, nols, startU, kOf, kQ, kT, onL, uSeqI, uRng1, uRng2, rOk, uEnum, uRep, uTupRev, uYes, ugN, ugT2, wipeU, setU, uIfQ, uRetQ, uSetQ, uPutQ, ixC, szD, List.map_cons, List.map_nil, List.length_cons, List.length_nil, List.replicate, List.cons_append, List.nil_append, List.getElem?_cons_zero, List.getElem?_cons_succ, List.set_cons_zero, List.set_cons_succ, Option.map_some, Option.map_none, List.getD, Option.getD_some, if_true, true_and, and_true, Nat.reduceAdd, Nat.reduceSub, reduceIte, Bool.false_eq_true, Bool.not_true, Bool.not_false]
    refine i_seq fun N5 hN5 => ?_
    refine i_for ?_
    simp [vw_jk, at_0, at_1, at_2, at_3, at_4, ix_40, ix_41, ix_42, ix_43, boolsD_comp, intsD_comp, sh_int, sh_bool, sh_none, sh_str, ev_int, ev_bool, ev_str, ev_none, ev_ni, ev_in, uIfS, evT, ev, uRet, uRetO, uRetN, uDrop, uSet, uSetO, uMove, uFrz, uNext, uBreak, uCont, uApp, uIns, uPut, uPutA, uAug, uRaise, uVar, uC, uOp, uUn, uTru, uTst, uNot, uAnd, uOr, uAndV, uOrV, uNotV, uIf, uNil, uCons, argU, uTup, uLst, allD, onDs, onD, onT, onBool, oI, oIC, oAdd, oEq, oIsN, isN_none, isN_int, isN_bool, isN_str, isN_list, isN_tup, truD, oIx, uSl, uPart, uNoP, oSl, uCB, oLen, oList, oTuple, oInt, oAbs, oAll, oAny, oSum, onB, onI, uIs, uIs2, isT, uCall, uCallP, pick, vw, vw1, okU, okX, nolU, nol, nols, startU, kOf, kQ, kT, onL, uSeqI, uRng1, uRng2, rOk, uEnum, uRep, uTupRev, uYes, ugN, ugT2, wipeU, setU, uIfQ, uRetQ, uSetQ, uPutQ, ixC, szD, List.map_cons, List.map_nil, List.length_cons, List.length_nil, List.replicate, List.cons_append, List.nil_append, List.getElem?_cons_zero, List.getElem?_cons_succ, List.set_cons_zero, List.set_cons_succ, Option.map_some, Option.map_none, List.getD, Option.getD_some, if_true, true_and, and_true, Nat.reduceAdd, Nat.reduceSub, reduceIte, Bool.false_eq_true, Bool.not_true, Bool.not_false]
    refine ⟨fun i s' => ∃ (o7 : Option D), s' = [some (.hold HVk), some (.d (.int n)), some (.d (.tuple (natL fs))), none, some (.d (.int k)), some (.d (.list os)), none, jk o7], ⟨o7, rfl⟩, fun i d s' e hs3 => ?_, fun s' hs3 => ?_⟩
    · obtain ⟨o7, rfl⟩ := hs3
      have ho := hall d (List.mem_of_getElem? e)
      simp [vw_jk, at_0, at_1, at_2, at_3, at_4, ix_40, ix_41, ix_42, ix_43, boolsD_comp, intsD_comp, sh_int, sh_bool, sh_none, sh_str, ev_int, ev_bool, ev_str, ev_none, ev_ni, ev_in, uIfS, evT, ev, uRet, uRetO, uRetN, uDrop, uSet, uSetO, uMove, uFrz, uNext, uBreak, uCont, uApp, uIns, uPut, uPutA, uAug, uRaise, uVar, uC, uOp, uUn, uTru, uTst, uNot, uAnd, uOr, uAndV, uOrV, uNotV, uIf, uNil, uCons, argU, uTup, uLst, allD, onDs, onD, onT, onBool, oI, oIC, oAdd, oEq, oIsN, isN_none, isN_int, isN_bool, isN_str, isN_list, isN_tup, truD, oIx, uSl, uPart, uNoP, oSl, uCB, oLen, oList, oTuple, oInt, oAbs, oAll, oAny, oSum, onB, onI, uIs, uIs2, isT, uCall, uCallP, pick, vw, vw1, okU, okX, nolU, nol, nols, startU, kOf, kQ, kT, onL, uSeqI, uRng1, uRng2, rOk, uEnum, uRep, uTupRev, uYes, ugN, ugT2, wipeU, setU, uIfQ, uRetQ, uSetQ, uPutQ, ixC, szD, List.map_cons, List.map_nil, List.length_cons, List.length_nil, List.replicate, List.cons_append, List.nil_append, List.getElem?_cons_zero, List.getElem?_cons_succ, List.set_cons_zero, List.set_cons_succ, Option.map_some, Option.map_none, List.getD, Option.getD_some, if_true, true_and, and_true, Nat.reduceAdd, Nat.reduceSub, reduceIte, Bool.false_eq_true, Bool.not_true, Bool.not_false]
      refine heard3 h0 hn ho (fun i z => by cases z) ?_
      simp [vw_jk, at_0, at_1, at_2, at_3, at_4, ix_40, ix_41, ix_42, ix_43, boolsD_comp, intsD_comp, sh_int, sh_bool, sh_none, sh_str, ev_int, ev_bool, ev_str, ev_none, ev_ni, ev_in, uIfS, evT, ev, uRet, uRetO, uRetN, uDrop, uSet, uSetO, uMove, uFrz, uNext, uBreak, uCont, uApp, uIns, uPut, uPutA, uAug, uRaise, uVar, uC, uOp, uUn, uTru, uTst, uNot, uAnd, uOr, uAndV, uOrV, uNotV, uIf, uNil, uCons, argU, uTup, uLst, allD, onDs, onD, onT, onBool, oI, oIC, oAdd, oEq, oIsN, isN_none, isN_int, isN_bool, isN_str, isN_list, isN_tup, truD, oIx, uSl, uPart, uNoP, oSl, uCB, oLen, oList, oTuple, oInt, oAbs, oAll, oAny, oSum, onB, onI, uIs, uIs2, isT, uCall, uCallP, pick, vw, vw1, okU, okX, nolU, nol, nols, startU, kOf, kQ, kT, onL, uSeqI, uRng1, uRng2, rOk, uEnum, uRep, uTupRev, uYes, ugN, ugT2, wipeU, setU, uIfQ, uRetQ, uSetQ, uPutQ, ixC, szD, List.map_cons, List.map_nil, List.length_cons, List.length_nil, List.replicate, List.cons_append, List.nil_append, List.getElem?_cons_zero, List.getElem?_cons_succ, List.set_cons_zero, List.set_cons_succ, Option.map_some, Option.map_none, List.getD, Option.getD_some, if_true, true_and, and_true, Nat.reduceAdd, Nat.reduceSub, reduceIte, Bool.false_eq_true, Bool.not_true, Bool.not_false]
      refine ⟨three_line, ?_⟩
      refine same_ref (by decide +kernel) (by decide +kernel) ?_
      simp [vw_jk, at_0, at_1, at_2, at_3, at_4, ix_40, ix_41, ix_42, ix_43, boolsD_comp, intsD_comp, sh_int, sh_bool, sh_none, sh_str, ev_int, ev_bool, ev_str, ev_none, ev_ni, ev_in, uIfS, evT, ev, uRet, uRetO, uRetN, uDrop, uSet, uSetO, uMove, uFrz, uNext, uBreak, uCont, uApp, uIns, uPut, uPutA, uAug, uRaise, uVar, uC, uOp, uUn, uTru, uTst, uNot, uAnd, uOr, uAndV, uOrV, uNotV, uIf, uNil, uCons, argU, uTup, uLst, allD, onDs, onD, onT, onBool, oI, oIC, oAdd, oEq, oIsN, isN_none, isN_int, isN_bool, isN_str, isN_list, isN_tup, truD, oIx, uSl, uPart, uNoP, oSl, uCB, oLen, oList, oTuple, oInt, oAbs, oAll, oAny, oSum, onB, onI, uIs, uIs2, isT, uCall, uCallP, pick, vw, vw1, okU, okX, nolU, nol, nols, startU, kOf, kQ, kT, onL, uSeqI, uRng1, uRng2, rOk, uEnum, uRep, uTupRev, uYes, ugN, ugT2, wipeU, setU, uIfQ, uRetQ, uSetQ, uPutQ, ixC, szD, List.map_cons, List.map_nil, List.length_cons, List.length_nil, List.replicate, List.cons_append, List.nil_append, List.getElem?_cons_zero, List.getElem?_cons_succ, List.set_cons_zero, List.set_cons_succ, Option.map_some, Option.map_none, List.getD, Option.getD_some, if_true, true_and, and_true, Nat.reduceAdd, Nat.reduceSub, reduceIte, Bool.false_eq_true, Bool.not_true, Bool.not_false]
      exact ⟨some _, rfl⟩
    · obtain ⟨o7, rfl⟩ := hs3
      rw [hN5]
      refine i_seq fun N6 hN6 => ?_
      refine i_for ?_
      simp [vw_jk, at_0, at_1, at_2, at_3, at_4, ix_40, ix_41, ix_42, ix_43, boolsD_comp, intsD_comp, sh_int, sh_bool, sh_none, sh_str, ev_int, ev_bool, ev_str, ev_none, ev_ni, ev_in, uIfS, evT, ev, uRet, uRetO, uRetN, uDrop, uSet, uSetO, uMove, uFrz, uNext, uBreak, uCont, uApp, uIns, uPut, uPutA, uAug, uRaise, uVar, uC, uOp, uUn, uTru, uTst, uNot, uAnd, uOr, uAndV, uOrV, uNotV, uIf, uNil, uCons, argU, uTup, uLst, allD, onDs, onD, onT, onBool, oI, oIC, oAdd, oEq, oIsN, isN_none, isN_int, isN_bool, isN_str, isN_list, isN_tup, truD, oIx, uSl, uPart, uNoP, oSl, uCB, oLen, oList, oTuple, oInt, oAbs, oAll, oAny, oSum, onB, onI, uIs, uIs2, isT, uCall, uCallP, pick, vw, vw1, okU, okX, nolU, nol, nols, startU, kOf, kQ, kT, onL, uSeqI, uRng1, uRng2, rOk, uEnum, uRep, uTupRev, uYes, ugN, ugT2, wipeU, setU, uIfQ, uRetQ, uSetQ, uPutQ, ixC, szD, List.map_cons, List.map_nil, List.length_cons, List.length_nil, List.replicate, List.cons_append, List.nil_append, List.getElem?_cons_zero, List.getElem?_cons_succ, List.set_cons_zero, List.set_cons_succ, Option.map_some, Option.map_none, List.getD, Option.getD_some, if_true, true_and, and_true, Nat.reduceAdd, Nat.reduceSub, reduceIte, Bool.false_eq_true, Bool.not_true, Bool.not_false]
      refine ⟨by decide, by decide, fun i s' => ∃ (o7 : Option D), s' = [some (.hold HVk), some (.d (.int n)), some (.d (.tuple (natL fs))), none, some (.d (.int k)), some (.d (.list os)), none, jk o7], ⟨o7, rfl⟩, fun i d s' e hs3 => ?_, fun s' hs3 => ?_⟩
      · obtain ⟨o7, rfl⟩ := hs3
        have hd : isNb d = false ∧ ∀ i : Int, d = .int i → i ≤ 1000 := by
          have hm := List.mem_of_getElem? e
          simp at hm
          rcases hm with rfl | rfl | rfl | rfl | rfl | rfl | rfl | rfl <;> exact ⟨rfl, fun i z => by cases z <;> omega⟩
        simp [vw_jk, at_0, at_1, at_2, at_3, at_4, ix_40, ix_41, ix_42, ix_43, boolsD_comp, intsD_comp, sh_int, sh_bool, sh_none, sh_str, ev_int, ev_bool, ev_str, ev_none, ev_ni, ev_in, uIfS, evT, ev, uRet, uRetO, uRetN, uDrop, uSet, uSetO, uMove, uFrz, uNext, uBreak, uCont, uApp, uIns, uPut, uPutA, uAug, uRaise, uVar, uC, uOp, uUn, uTru, uTst, uNot, uAnd, uOr, uAndV, uOrV, uNotV, uIf, uNil, uCons, argU, uTup, uLst, allD, onDs, onD, onT, onBool, oI, oIC, oAdd, oEq, oIsN, isN_none, isN_int, isN_bool, isN_str, isN_list, isN_tup, truD, oIx, uSl, uPart, uNoP, oSl, uCB, oLen, oList, oTuple, oInt, oAbs, oAll, oAny, oSum, onB, onI, uIs, uIs2, isT, uCall, uCallP, pick, vw, vw1, okU, okX, nolU, nol, nols, startU, kOf, kQ, kT, onL, uSeqI, uRng1, uRng2, rOk, uEnum, uRep, uTupRev, uYes, ugN, ugT2, wipeU, setU, uIfQ, uRetQ, uSetQ, uPutQ, ixC, szD, List.map_cons, List.map_nil, List.length_cons, List.length_nil, List.replicate, List.cons_append, List.nil_append, List.getElem?_cons_zero, List.getElem?_cons_succ, List.set_cons_zero, List.set_cons_succ, Option.map_some, Option.map_none, List.getD, Option.getD_some, if_true, true_and, and_true, Nat.reduceAdd, Nat.reduceSub, reduceIte, Bool.false_eq_true, Bool.not_true, Bool.not_false]
        refine heard4 h0 hn sF gF hd.1 hd.2 ?_
        simp [vw_jk, at_0, at_1, at_2, at_3, at_4, ix_40, ix_41, ix_42, ix_43, boolsD_comp, intsD_comp, sh_int, sh_bool, sh_none, sh_str, ev_int, ev_bool, ev_str, ev_none, ev_ni, ev_in, uIfS, evT, ev, uRet, uRetO, uRetN, uDrop, uSet, uSetO, uMove, uFrz, uNext, uBreak, uCont, uApp, uIns, uPut, uPutA, uAug, uRaise, uVar, uC, uOp, uUn, uTru, uTst, uNot, uAnd, uOr, uAndV, uOrV, uNotV, uIf, uNil, uCons, argU, uTup, uLst, allD, onDs, onD, onT, onBool, oI, oIC, oAdd, oEq, oIsN, isN_none, isN_int, isN_bool, isN_str, isN_list, isN_tup, truD, oIx, uSl, uPart, uNoP, oSl, uCB, oLen, oList, oTuple, oInt, oAbs, oAll, oAny, oSum, onB, onI, uIs, uIs2, isT, uCall, uCallP, pick, vw, vw1, okU, okX, nolU, nol, nols, startU, kOf, kQ, kT, onL, uSeqI, uRng1, uRng2, rOk, uEnum, uRep, uTupRev, uYes, ugN, ugT2, wipeU, setU, uIfQ, uRetQ, uSetQ, uPutQ, ixC, szD, List.map_cons, List.map_nil, List.length_cons, List.length_nil, List.replicate, List.cons_append, List.nil_append, List.getElem?_cons_zero, List.getElem?_cons_succ, List.set_cons_zero, List.set_cons_succ, Option.map_some, Option.map_none, List.getD, Option.getD_some, if_true, true_and, and_true, Nat.reduceAdd, Nat.reduceSub, reduceIte, Bool.false_eq_true, Bool.not_true, Bool.not_false]
        refine ⟨three_line, ?_⟩
        refine same_ref (by decide +kernel) (by decide +kernel) ?_
        simp [vw_jk, at_0, at_1, at_2, at_3, at_4, ix_40, ix_41, ix_42, ix_43, boolsD_comp, intsD_comp, sh_int, sh_bool, sh_none, sh_str, ev_int, ev_bool, ev_str, ev_none, ev_ni, ev_in, uIfS, evT, ev, uRet, uRetO, uRetN, uDrop, uSet, uSetO, uMove, uFrz, uNext, uBreak, uCont, uApp, uIns, uPut, uPutA, uAug, uRaise, uVar, uC, uOp, uUn, uTru, uTst, uNot, uAnd, uOr, uAndV, uOrV, uNotV, uIf, uNil, uCons, argU, uTup, uLst, allD, onDs, onD, onT, onBool, oI, oIC, oAdd, oEq, oIsN, isN_none, isN_int, isN_bool, isN_str, isN_list, isN_tup, truD, oIx, uSl, uPart, uNoP, oSl, uCB, oLen, oList, oTuple, oInt, oAbs, oAll, oAny, oSum, onB, onI, uIs, uIs2, isT, uCall, uCallP, pick, vw, vw1, okU, okX, nolU, nol, nols, startU, kOf, kQ, kT, onL, uSeqI, uRng1, uRng2, rOk, uEnum, uRep, uTupRev, uYes, ugN, ugT2, wipeU, setU, uIfQ, uRetQ, uSetQ, uPutQ, ixC, szD, List.map_cons, List.map_nil, List.length_cons, List.length_nil, List.replicate, List.cons_append, List.nil_append, List.getElem?_cons_zero, List.getElem?_cons_succ, List.set_cons_zero, List.set_cons_succ, Option.map_some, Option.map_none, List.getD, Option.getD_some, if_true, true_and, and_true, Nat.reduceAdd, Nat.reduceSub, reduceIte, Bool.false_eq_true, Bool.not_true, Bool.not_false]
        exact ⟨some _, rfl⟩
      · obtain ⟨o7, rfl⟩ := hs3
        rw [hN6]
        simp [vw_jk, at_0, at_1, at_2, at_3, at_4, ix_40, ix_41, ix_42, ix_43, boolsD_comp, intsD_comp, sh_int, sh_bool, sh_none, sh_str, ev_int, ev_bool, ev_str, ev_none, ev_ni, ev_in, uIfS, evT, ev, uRet, uRetO, uRetN, uDrop, uSet, uSetO, uMove, uFrz, uNext, uBreak, uCont, uApp, uIns, uPut, uPutA, uAug, uRaise, uVar, uC, uOp, uUn, uTru, uTst, uNot, uAnd, uOr, uAndV, uOrV, uNotV, uIf, uNil, uCons, argU, uTup, uLst, allD, onDs, onD, onT, onBool, oI, oIC, oAdd, oEq, oIsN, isN_none, isN_int, isN_bool, isN_str, isN_list, isN_tup, truD, oIx, uSl, uPart, uNoP, oSl, uCB, oLen, oList, oTuple, oInt, oAbs, oAll, oAny, oSum, onB, onI, uIs, uIs2, isT, uCall, uCallP, pick, vw, vw1, okU, okX, nolU, nol, nols, startU, kOf, kQ, kT, onL, uSeqI, uRng1, uRng2, rOk, uEnum, uRep, uTupRev, uYes, ugN, ugT2, wipeU, setU, uIfQ, uRetQ, uSetQ, uPutQ, ixC, szD, List.map_cons, List.map_nil, List.length_cons, List.length_nil, List.replicate, List.cons_append, List.nil_append, List.getElem?_cons_zero, List.getElem?_cons_succ, List.set_cons_zero, List.set_cons_succ, Option.map_some, Option.map_none, List.getD, Option.getD_some, if_true, true_and, and_true, Nat.reduceAdd, Nat.reduceSub, reduceIte, Bool.false_eq_true, Bool.not_true, Bool.not_false]
        refine heard5 (t := 1) h0 hn (by omega) hf1 hf (by decide) ?_
        simp [vw_jk, at_0, at_1, at_2, at_3, at_4, ix_40, ix_41, ix_42, ix_43, boolsD_comp, intsD_comp, sh_int, sh_bool, sh_none, sh_str, ev_int, ev_bool, ev_str, ev_none, ev_ni, ev_in, uIfS, evT, ev, uRet, uRetO, uRetN, uDrop, uSet, uSetO, uMove, uFrz, uNext, uBreak, uCont, uApp, uIns, uPut, uPutA, uAug, uRaise, uVar, uC, uOp, uUn, uTru, uTst, uNot, uAnd, uOr, uAndV, uOrV, uNotV, uIf, uNil, uCons, argU, uTup, uLst, allD, onDs, onD, onT, onBool, oI, oIC, oAdd, oEq, oIsN, isN_none, isN_int, isN_bool, isN_str, isN_list, isN_tup, truD, oIx, uSl, uPart, uNoP, oSl, uCB, oLen, oList, oTuple, oInt, oAbs, oAll, oAny, oSum, onB, onI, uIs, uIs2, isT, uCall, uCallP, pick, vw, vw1, okU, okX, nolU, nol, nols, startU, kOf, kQ, kT, onL, uSeqI, uRng1, uRng2, rOk, uEnum, uRep, uTupRev, uYes, ugN, ugT2, wipeU, setU, uIfQ, uRetQ, uSetQ, uPutQ, ixC, szD, List.map_cons, List.map_nil, List.length_cons, List.length_nil, List.replicate, List.cons_append, List.nil_append, List.getElem?_cons_zero, List.getElem?_cons_succ, List.set_cons_zero, List.set_cons_succ, Option.map_some, Option.map_none, List.getD, Option.getD_some, if_true, true_and, and_true, Nat.reduceAdd, Nat.reduceSub, reduceIte, Bool.false_eq_true, Bool.not_true, Bool.not_false]
        refine ⟨n, _, fs, 1, rfl, .inr rfl, h0, hn, hf1, by decide, by rw [Nat.pow_one]; omega, by omega, ?_⟩
        simp [vw_jk, at_0, at_1, at_2, at_3, at_4, ix_40, ix_41, ix_42, ix_43, boolsD_comp, intsD_comp, sh_int, sh_bool, sh_none, sh_str, ev_int, ev_bool, ev_str, ev_none, ev_ni, ev_in, uIfS, evT, ev, uRet, uRetO, uRetN, uDrop, uSet, uSetO, uMove, uFrz, uNext, uBreak, uCont, uApp, uIns, uPut, uPutA, uAug, uRaise, uVar, uC, uOp, uUn, uTru, uTst, uNot, uAnd, uOr, uAndV, uOrV, uNotV, uIf, uNil, uCons, argU, uTup, uLst, allD, onDs, onD, onT, onBool, oI, oIC, oAdd, oEq, oIsN, isN_none, isN_int, isN_bool, isN_str, isN_list, isN_tup, truD, oIx, uSl, uPart, uNoP, oSl, uCB, oLen, oList, oTuple, oInt, oAbs, oAll, oAny, oSum, onB, onI, uIs, uIs2, isT, uCall, uCallP, pick, vw, vw1, okU, okX, nolU, nol, nols, startU, kOf, kQ, kT, onL, uSeqI, uRng1, uRng2, rOk, uEnum, uRep, uTupRev, uYes, ugN, ugT2, wipeU, setU, uIfQ, uRetQ, uSetQ, uPutQ, ixC, szD, List.map_cons, List.map_nil, List.length_cons, List.length_nil, List.replicate, List.cons_append, List.nil_append, List.getElem?_cons_zero, List.getElem?_cons_succ, List.set_cons_zero, List.set_cons_succ, Option.map_some, Option.map_none, List.getD, Option.getD_some, if_true, true_and, and_true, Nat.reduceAdd, Nat.reduceSub, reduceIte, Bool.false_eq_true, Bool.not_true, Bool.not_false]
        exact ⟨two_line, same_told hn hp⟩
theorem sc_law : FnScope ["_law_script", "_law_hold", "_law_many", "_law_symbols", "_law_row", "_law_wished", "_law_scene"] ["_law_script"] (defScope s_law) := ⟨rfl, rfl, rfl, by decide +kernel, rfl, by decide +kernel, by decide +kernel⟩
def fn_law : Fn := fun as P PX => False
theorem ok_law (T : Tk P K mg) {fd__law_a_hold : FuncData} (h__law_a_hold : Has P w K mg base 1 "_law_a_hold" s__law_a_hold ["_law_script"] fn__law_a_hold fd__law_a_hold) {fd__law_a_symbols : FuncData} (h__law_a_symbols : Has P w K mg base 2 "_law_a_symbols" s__law_a_symbols ["_law_hold"] fn__law_a_symbols fd__law_a_symbols) {fd__law_a_row : FuncData} (h__law_a_row : Has P w K mg base 2 "_law_a_row" s__law_a_row ["_law_hold", "_law_many", "_law_symbols"] fn__law_a_row fd__law_a_row) {fd__law_a_wished : FuncData} (h__law_a_wished : Has P w K mg base 2 "_law_a_wished" s__law_a_wished ["_law_hold", "_law_many", "_law_symbols", "_law_row"] fn__law_a_wished fd__law_a_wished) {fd__law_take : FuncData} (h__law_take : Has P w K mg base 1 "_law_take" s__law_take ["_law_hold", "_law_many"] fn__law_take fd__law_take) {fd__law_odd_rows : FuncData} (h__law_odd_rows : Has P w K mg base 8 "_law_odd_rows" s__law_odd_rows ["_law_hold", "_law_many", "_law_row", "_law_wished"] (fn__law_odd_rows K) fd__law_odd_rows) {fd__law_odd_throws : FuncData} (h__law_odd_throws : Has P w K mg base 8 "_law_odd_throws" s__law_odd_throws ["_law_hold", "_law_many"] (fn__law_odd_throws K) fd__law_odd_throws) {fd__law_matches_right : FuncData} (h__law_matches_right : Has P w K mg base 8 "_law_matches_right" s__law_matches_right ["_law_many", "_law_row", "_law_wished"] fn__law_matches_right fd__law_matches_right) {fd__law_throws_right : FuncData} (h__law_throws_right : Has P w K mg base 8 "_law_throws_right" s__law_throws_right ["_law_hold", "_law_many"] fn__law_throws_right fd__law_throws_right) : ∃ fd, Fun K "law" "law" s_law (He.ga K "law") fd ∧ (∀ (s : Shared) (v : Value), BindsTo s fd ⟨[v], []⟩ [("_law_script", v)]) ∧ FnOk P w K mg base (L2.CX P w) 9 (He.ga K "law") fd ["_law_script"] (spLaw K) := by
  obtain ⟨fd, F⟩ := T.f_law
  refine ⟨fd, F, ?_, fnLaw (i := 1) F sc_law rfl (by decide) (by rfl) fun cdv A outer s H E hr => ⟨_, _, _, _, (ds_setO false 1 (de_own h__law_a_hold ⟨rfl, rfl, rfl, rfl, rfl⟩ (hr.mono (by decide)) rfl airD (da_cons (dv 0) da_nil)) sc_law.nd),
    (dss_cons (ds_set false 2 (de_op (do_addk (KK := K)) de_int (de_own h__law_take ⟨rfl, rfl, rfl, rfl, rfl⟩ (hr.mono (by decide)) rfl airD (da_cons (dv 1) (da_cons de_int da_nil)))) sc_law.nd)
    (dss_cons (ds_if false (dt_cmp (do_eqk (KK := K) hr.units) (de_own h__law_take ⟨rfl, rfl, rfl, rfl, rfl⟩ (hr.mono (by decide)) rfl airD (da_cons (dv 1) (da_cons de_int da_nil))) de_int) (dss_one (ds_set false 2 (de_op (do_addk (KK := K)) de_int (de_own h__law_take ⟨rfl, rfl, rfl, rfl, rfl⟩ (hr.mono (by decide)) rfl airD (da_cons (dv 1) (da_cons (de_ixk (KK := K) (de_tup (da_cons de_int (da_cons de_int (da_cons de_int (da_cons de_int da_nil))))) (de_own h__law_take ⟨rfl, rfl, rfl, rfl, rfl⟩ (hr.mono (by decide)) rfl airD (da_cons (dv 1) (da_cons de_int da_nil)))) da_nil)))) sc_law.nd)) dss_nil)
    (dss_cons (ds_set false 3 (de_own h__law_a_symbols ⟨rfl, rfl, rfl, rfl, rfl⟩ (hr.mono (by decide)) rfl airD (da_cons (dv 1) da_nil)) sc_law.nd)
    (dss_cons (ds_set false 4 (de_own h__law_a_row ⟨rfl, rfl, rfl, rfl, rfl⟩ (hr.mono (by decide)) rfl airD (da_cons (dv 1) (da_cons (dv 2) (da_cons (dv 3) da_nil)))) sc_law.nd)
    (dss_cons (ds_set false 5 (de_own h__law_a_wished ⟨rfl, rfl, rfl, rfl, rfl⟩ (hr.mono (by decide)) rfl airD (da_cons (dv 1) (da_cons (dv 2) (da_cons (dv 3) (da_cons (dv 4) da_nil))))) sc_law.nd)
    (dss_cons (ds_if false (DW.dt (dw_or (dt_not (dt_truk (KK := K) (de_own h__law_matches_right ⟨rfl, rfl, rfl, rfl, rfl⟩ (hr.mono (by decide)) rfl airD (da_cons (dv 2) (da_cons (dv 4) (da_cons (dv 5) da_nil)))))) (dw_or1 (dt_not (dt_truk (KK := K) (de_own h__law_throws_right ⟨rfl, rfl, rfl, rfl, rfl⟩ (hr.mono (by decide)) rfl airD (da_cons (dv 1) (da_cons (dv 2) da_nil)))))))) (dss_one (ds_ret false de_bl)) dss_nil)
    (dss_cons (ds_set false 6 (de_own h__law_take ⟨rfl, rfl, rfl, rfl, rfl⟩ (hr.mono (by decide)) rfl airD (da_cons (dv 1) (da_cons de_int da_nil))) sc_law.nd)
    (dss_cons (ds_if false (dt_cmp (do_eqk (KK := K) hr.units) (dv 6) de_int) (dss_one (ds_ret false (de_own h__law_odd_rows ⟨rfl, rfl, rfl, rfl, rfl⟩ (hr.mono (by decide)) rfl airD (da_cons (dv 1) (da_cons (dv 2) (da_cons (dv 4) (da_cons (dv 5) da_nil))))))) dss_nil)
    (dss_one (ds_ret false (de_ork (KK := K) (de_cmp do_gt (dv 6) de_int) (de_one (de_own h__law_odd_throws ⟨rfl, rfl, rfl, rfl, rfl⟩ (hr.mono (by decide)) rfl airD (da_cons (dv 1) (da_cons (dv 2) da_nil))))))))))))))), ?_⟩⟩
  · obtain ⟨oc, od, kV, doc, pm, an, cdv, ct, osl, rfl, lk, hcd⟩ := F.ex
    exact fun s v => .of_eq (by first | rfl | with_unfolding_all rfl)
  intro ns hns
  simp [vw_jk, at_0, at_1, at_2, at_3, at_4, ix_40, ix_41, ix_42, ix_43, boolsD_comp, intsD_comp, sh_int, sh_bool, sh_none, sh_str, ev_int, ev_bool, ev_str, ev_none, ev_ni, ev_in, uIfS, evT, ev, uRet, uRetO, uRetN, uDrop, uSet, uSetO, uMove, uFrz, uNext, uBreak, uCont, uApp, uIns, uPut, uPutA, uAug, uRaise, uVar, uC, uOp, uUn, uTru, uTst, uNot, uAnd, uOr, uAndV, uOrV, uNotV, uIf, uNil, uCons, argU, uTup, uLst, allD, onDs, onD, onT, onBool, oI, oIC, oAdd, oEq, oIsN, isN_none, isN_int, isN_bool, isN_str, isN_list, isN_tup, truD, oIx, uSl, uPart, uNoP, oSl, uCB, oLen, oList, oTuple, oInt, oAbs, oAll, oAny, oSum, onB, onI, uIs, uIs2, isT, uCall, uCallP, pick, vw, vw1, okU, okX, nolU, nol, nols, startU, kOf, kQ, kT, onL, uSeqI, uRng1, uRng2, rOk, uEnum, uRep, uTupRev, uYes, ugN, ugT2, wipeU, setU, uIfQ, uRetQ, uSetQ, uPutQ, ixC, szD, List.map_cons, List.map_nil, List.length_cons, List.length_nil, List.replicate, List.cons_append, List.nil_append, List.getElem?_cons_zero, List.getElem?_cons_succ, List.set_cons_zero, List.set_cons_succ, Option.map_some, Option.map_none, List.getD, Option.getD_some, if_true, true_and, and_true, Nat.reduceAdd, Nat.reduceSub, reduceIte, Bool.false_eq_true, Bool.not_true, Bool.not_false]
  refine ⟨ns, rfl, hns, fun l hv => ?_⟩
  simp [vw_jk, at_0, at_1, at_2, at_3, at_4, ix_40, ix_41, ix_42, ix_43, boolsD_comp, intsD_comp, sh_int, sh_bool, sh_none, sh_str, ev_int, ev_bool, ev_str, ev_none, ev_ni, ev_in, uIfS, evT, ev, uRet, uRetO, uRetN, uDrop, uSet, uSetO, uMove, uFrz, uNext, uBreak, uCont, uApp, uIns, uPut, uPutA, uAug, uRaise, uVar, uC, uOp, uUn, uTru, uTst, uNot, uAnd, uOr, uAndV, uOrV, uNotV, uIf, uNil, uCons, argU, uTup, uLst, allD, onDs, onD, onT, onBool, oI, oIC, oAdd, oEq, oIsN, isN_none, isN_int, isN_bool, isN_str, isN_list, isN_tup, truD, oIx, uSl, uPart, uNoP, oSl, uCB, oLen, oList, oTuple, oInt, oAbs, oAll, oAny, oSum, onB, onI, uIs, uIs2, isT, uCall, uCallP, pick, vw, vw1, okU, okX, nolU, nol, nols, startU, kOf, kQ, kT, onL, uSeqI, uRng1, uRng2, rOk, uEnum, uRep, uTupRev, uYes, ugN, ugT2, wipeU, setU, uIfQ, uRetQ, uSetQ, uPutQ, ixC, szD, List.map_cons, List.map_nil, List.length_cons, List.length_nil, List.replicate, List.cons_append, List.nil_append, List.getElem?_cons_zero, List.getElem?_cons_succ, List.set_cons_zero, List.set_cons_succ, Option.map_some, Option.map_none, List.getD, Option.getD_some, if_true, true_and, and_true, Nat.reduceAdd, Nat.reduceSub, reduceIte, Bool.false_eq_true, Bool.not_true, Bool.not_false]
  refine ⟨l, HVk, rfl, hv, fun i l z => ?_, ?_⟩
  · have := List.mem_of_getElem? z
    simp at this
  have eT : ∀ (r : U) (s' : Sl), r = .d (.bool true) → kT.rt r s' := fun r s' h => h
  generalize hkk : kT = kk at eT
  simp only [vw_jk, at_0, at_1, at_2, at_3, at_4, ix_40, ix_41, ix_42, ix_43, boolsD_comp, intsD_comp, sh_int, sh_bool, sh_none, sh_str, ev_int, ev_bool, ev_str, ev_none, ev_ni, ev_in, uIfS, evT, ev, uRet, uRetO, uRetN, uDrop, uSet, uSetO, uMove, uFrz, uNext, uBreak, uCont, uApp, uIns, uPut, uPutA, uAug, uRaise, uVar, uC, uOp, uUn, uTru, uTst, uNot, uAnd, uOr, uAndV, uOrV, uNotV, uIf, uNil, uCons, argU, uTup, uLst, allD, onDs, onD, onT, onBool, oI, oIC, oAdd, oEq, oIsN, isN_none, isN_int, isN_bool, isN_str, isN_list, isN_tup, truD, oIx, uSl, uPart, uNoP, oSl, uCB, oLen, oList, oTuple, oInt, oAbs, oAll, oAny, oSum, onB, onI, uIs, uIs2, isT, uCall, uCallP, pick, vw, vw1, okU, okX, nolU, nol, nols, startU, kOf, kQ, kT, onL, uSeqI, uRng1, uRng2, rOk, uEnum, uRep, uTupRev, uYes, ugN, ugT2, wipeU, setU, uIfQ, uRetQ, uSetQ, uPutQ, ixC, szD, List.map_cons, List.map_nil, List.length_cons, List.length_nil, List.replicate, List.cons_append, List.nil_append, List.getElem?_cons_zero, List.getElem?_cons_succ, List.set_cons_zero, List.set_cons_succ, Option.map_some, Option.map_none, List.getD, Option.getD_some, if_true, true_and, and_true, Nat.reduceAdd, Nat.reduceSub, reduceIte, Bool.false_eq_true, Bool.not_true, Bool.not_false]
  refine i_seq fun N hN => ?_
  simp [vw_jk, at_0, at_1, at_2, at_3, at_4, ix_40, ix_41, ix_42, ix_43, boolsD_comp, intsD_comp, sh_int, sh_bool, sh_none, sh_str, ev_int, ev_bool, ev_str, ev_none, ev_ni, ev_in, uIfS, evT, ev, uRet, uRetO, uRetN, uDrop, uSet, uSetO, uMove, uFrz, uNext, uBreak, uCont, uApp, uIns, uPut, uPutA, uAug, uRaise, uVar, uC, uOp, uUn, uTru, uTst, uNot, uAnd, uOr, uAndV, uOrV, uNotV, uIf, uNil, uCons, argU, uTup, uLst, allD, onDs, onD, onT, onBool, oI, oIC, oAdd, oEq, oIsN, isN_none, isN_int, isN_bool, isN_str, isN_list, isN_tup, truD, oIx, uSl, uPart, uNoP, oSl, uCB, oLen, oList, oTuple, oInt, oAbs, oAll, oAny, oSum, onB, onI, uIs, uIs2, isT, uCall, uCallP, pick, vw, vw1, okU, okX, nolU, nol, nols, startU, kOf, kQ, kT, onL, uSeqI, uRng1, uRng2, rOk, uEnum, uRep, uTupRev, uYes, ugN, ugT2, wipeU, setU, uIfQ, uRetQ, uSetQ, uPutQ, ixC, szD, List.map_cons, List.map_nil, List.length_cons, List.length_nil, List.replicate, List.cons_append, List.nil_append, List.getElem?_cons_zero, List.getElem?_cons_succ, List.set_cons_zero, List.set_cons_succ, Option.map_some, Option.map_none, List.getD, Option.getD_some, if_true, true_and, and_true, Nat.reduceAdd, Nat.reduceSub, reduceIte, Bool.false_eq_true, Bool.not_true, Bool.not_false]
  refine tk (by decide) (by decide) fun a a0 a1 => ?_
  simp [vw_jk, at_0, at_1, at_2, at_3, at_4, ix_40, ix_41, ix_42, ix_43, boolsD_comp, intsD_comp, sh_int, sh_bool, sh_none, sh_str, ev_int, ev_bool, ev_str, ev_none, ev_ni, ev_in, uIfS, evT, ev, uRet, uRetO, uRetN, uDrop, uSet, uSetO, uMove, uFrz, uNext, uBreak, uCont, uApp, uIns, uPut, uPutA, uAug, uRaise, uVar, uC, uOp, uUn, uTru, uTst, uNot, uAnd, uOr, uAndV, uOrV, uNotV, uIf, uNil, uCons, argU, uTup, uLst, allD, onDs, onD, onT, onBool, oI, oIC, oAdd, oEq, oIsN, isN_none, isN_int, isN_bool, isN_str, isN_list, isN_tup, truD, oIx, uSl, uPart, uNoP, oSl, uCB, oLen, oList, oTuple, oInt, oAbs, oAll, oAny, oSum, onB, onI, uIs, uIs2, isT, uCall, uCallP, pick, vw, vw1, okU, okX, nolU, nol, nols, startU, kOf, kQ, kT, onL, uSeqI, uRng1, uRng2, rOk, uEnum, uRep, uTupRev, uYes, ugN, ugT2, wipeU, setU, uIfQ, uRetQ, uSetQ, uPutQ, ixC, szD, List.map_cons, List.map_nil, List.length_cons, List.length_nil, List.replicate, List.cons_append, List.nil_append, List.getElem?_cons_zero, List.getElem?_cons_succ, List.set_cons_zero, List.set_cons_succ, Option.map_some, Option.map_none, List.getD, Option.getD_some, if_true, true_and, and_true, Nat.reduceAdd, Nat.reduceSub, reduceIte, Bool.false_eq_true, Bool.not_true, Bool.not_false]
  rw [hN]
  refine i_cut (fun s' => ∃ n : Nat, s' = [some (.d (scriptD ns)), some (.hold HVk), some (.d (.int n)), none, none, none, none] ∧ 0 < n ∧ n ≤ 1000) ?_ ?_
  · rintro s' ⟨n, rfl, h0, hn⟩
    have hn0 : (0 : Int) < n := by omega
    refine i_seq fun N2 hN2 => ?_
    simp [vw_jk, at_0, at_1, at_2, at_3, at_4, ix_40, ix_41, ix_42, ix_43, boolsD_comp, intsD_comp, sh_int, sh_bool, sh_none, sh_str, ev_int, ev_bool, ev_str, ev_none, ev_ni, ev_in, uIfS, evT, ev, uRet, uRetO, uRetN, uDrop, uSet, uSetO, uMove, uFrz, uNext, uBreak, uCont, uApp, uIns, uPut, uPutA, uAug, uRaise, uVar, uC, uOp, uUn, uTru, uTst, uNot, uAnd, uOr, uAndV, uOrV, uNotV, uIf, uNil, uCons, argU, uTup, uLst, allD, onDs, onD, onT, onBool, oI, oIC, oAdd, oEq, oIsN, isN_none, isN_int, isN_bool, isN_str, isN_list, isN_tup, truD, oIx, uSl, uPart, uNoP, oSl, uCB, oLen, oList, oTuple, oInt, oAbs, oAll, oAny, oSum, onB, onI, uIs, uIs2, isT, uCall, uCallP, pick, vw, vw1, okU, okX, nolU, nol, nols, startU, kOf, kQ, kT, onL, uSeqI, uRng1, uRng2, rOk, uEnum, uRep, uTupRev, uYes, ugN, ugT2, wipeU, setU, uIfQ, uRetQ, uSetQ, uPutQ, ixC, szD, List.map_cons, List.map_nil, List.length_cons, List.length_nil, List.replicate, List.cons_append, List.nil_append, List.getElem?_cons_zero, List.getElem?_cons_succ, List.set_cons_zero, List.set_cons_succ, Option.map_some, Option.map_none, List.getD, Option.getD_some, if_true, true_and, and_true, Nat.reduceAdd, Nat.reduceSub, reduceIte, Bool.false_eq_true, Bool.not_true, Bool.not_false]
    refine ⟨rfl, fun sy sy1 sy2 => ?_⟩
    simp [vw_jk, at_0, at_1, at_2, at_3, at_4, ix_40, ix_41, ix_42, ix_43, boolsD_comp, intsD_comp, sh_int, sh_bool, sh_none, sh_str, ev_int, ev_bool, ev_str, ev_none, ev_ni, ev_in, uIfS, evT, ev, uRet, uRetO, uRetN, uDrop, uSet, uSetO, uMove, uFrz, uNext, uBreak, uCont, uApp, uIns, uPut, uPutA, uAug, uRaise, uVar, uC, uOp, uUn, uTru, uTst, uNot, uAnd, uOr, uAndV, uOrV, uNotV, uIf, uNil, uCons, argU, uTup, uLst, allD, onDs, onD, onT, onBool, oI, oIC, oAdd, oEq, oIsN, isN_none, isN_int, isN_bool, isN_str, isN_list, isN_tup, truD, oIx, uSl, uPart, uNoP, oSl, uCB, oLen, oList, oTuple, oInt, oAbs, oAll, oAny, oSum, onB, onI, uIs, uIs2, isT, uCall, uCallP, pick, vw, vw1, okU, okX, nolU, nol, nols, startU, kOf, kQ, kT, onL, uSeqI, uRng1, uRng2, rOk, uEnum, uRep, uTupRev, uYes, ugN, ugT2, wipeU, setU, uIfQ, uRetQ, uSetQ, uPutQ, ixC, szD, List.map_cons, List.map_nil, List.length_cons, List.length_nil, List.replicate, List.cons_append, List.nil_append, List.getElem?_cons_zero, List.getElem?_cons_succ, List.set_cons_zero, List.set_cons_succ, Option.map_some, Option.map_none, List.getD, Option.getD_some, if_true, true_and, and_true, Nat.reduceAdd, Nat.reduceSub, reduceIte, Bool.false_eq_true, Bool.not_true, Bool.not_false]
    rw [hN2]
    refine i_seq fun N3 hN3 => ?_
    simp [vw_jk, at_0, at_1, at_2, at_3, at_4, ix_40, ix_41, ix_42, ix_43, boolsD_comp, intsD_comp, sh_int, sh_bool, sh_none, sh_str, ev_int, ev_bool, ev_str, ev_none, ev_ni, ev_in, uIfS, evT, ev, uRet, uRetO, uRetN, uDrop, uSet, uSetO, uMove, uFrz, uNext, uBreak, uCont, uApp, uIns, uPut, uPutA, uAug, uRaise, uVar, uC, uOp, uUn, uTru, uTst, uNot, uAnd, uOr, uAndV, uOrV, uNotV, uIf, uNil, uCons, argU, uTup, uLst, allD, onDs, onD, onT, onBool, oI, oIC, oAdd, oEq, oIsN, isN_none, isN_int, isN_bool, isN_str, isN_list, isN_tup, truD, oIx, uSl, uPart, uNoP, oSl, uCB, oLen, oList, oTuple, oInt, oAbs, oAll, oAny, oSum, onB, onI, uIs, uIs2, isT, uCall, uCallP, pick, vw, vw1, okU, okX, nolU, nol, nols, startU, kOf, kQ, kT, onL, uSeqI, uRng1, uRng2, rOk, uEnum, uRep, uTupRev, uYes, ugN, ugT2, wipeU, setU, uIfQ, uRetQ, uSetQ, uPutQ, ixC, szD, List.map_cons, List.map_nil, List.length_cons, List.length_nil, List.replicate, List.cons_append, List.nil_append, List.getElem?_cons_zero, List.getElem?_cons_succ, List.set_cons_zero, List.set_cons_succ, Option.map_some, Option.map_none, List.getD, Option.getD_some, if_true, true_and, and_true, Nat.reduceAdd, Nat.reduceSub, reduceIte, Bool.false_eq_true, Bool.not_true, Bool.not_false]
    refine ⟨n, sy, rfl, hn0, by omega, by omega, by omega, fun r hr => ?_⟩
    simp [vw_jk, at_0, at_1, at_2, at_3, at_4, ix_40, ix_41, ix_42, ix_43, boolsD_comp, intsD_comp, sh_int, sh_bool, sh_none, sh_str, ev_int, ev_bool, ev_str, ev_none, ev_ni, ev_in, uIfS, evT, ev, uRet, uRetO, uRetN, uDrop, uSet, uSetO, uMove, uFrz, uNext, uBreak, uCont, uApp, uIns, uPut, uPutA, uAug, uRaise, uVar, uC, uOp, uUn, uTru, uTst, uNot, uAnd, uOr, uAndV, uOrV, uNotV, uIf, uNil, uCons, argU, uTup, uLst, allD, onDs, onD, onT, onBool, oI, oIC, oAdd, oEq, oIsN, isN_none, isN_int, isN_bool, isN_str, isN_list, isN_tup, truD, oIx, uSl, uPart, uNoP, oSl, uCB, oLen, oList, oTuple, oInt, oAbs, oAll, oAny, oSum, onB, onI, uIs, uIs2, isT, uCall, uCallP, pick, vw, vw1, okU, okX, nolU, nol, nols, startU, kOf, kQ, kT, onL, uSeqI, uRng1, uRng2, rOk, uEnum, uRep, uTupRev, uYes, ugN, ugT2, wipeU, setU, uIfQ, uRetQ, uSetQ, uPutQ, ixC, szD, List.map_cons, List.map_nil, List.length_cons, List.length_nil, List.replicate, List.cons_append, List.nil_append, List.getElem?_cons_zero, List.getElem?_cons_succ, List.set_cons_zero, List.set_cons_succ, Option.map_some, Option.map_none, List.getD, Option.getD_some, if_true, true_and, and_true, Nat.reduceAdd, Nat.reduceSub, reduceIte, Bool.false_eq_true, Bool.not_true, Bool.not_false]
    rw [hN3]
    refine i_seq fun N4 hN4 => ?_
    simp [vw_jk, at_0, at_1, at_2, at_3, at_4, ix_40, ix_41, ix_42, ix_43, boolsD_comp, intsD_comp, sh_int, sh_bool, sh_none, sh_str, ev_int, ev_bool, ev_str, ev_none, ev_ni, ev_in, uIfS, evT, ev, uRet, uRetO, uRetN, uDrop, uSet, uSetO, uMove, uFrz, uNext, uBreak, uCont, uApp, uIns, uPut, uPutA, uAug, uRaise, uVar, uC, uOp, uUn, uTru, uTst, uNot, uAnd, uOr, uAndV, uOrV, uNotV, uIf, uNil, uCons, argU, uTup, uLst, allD, onDs, onD, onT, onBool, oI, oIC, oAdd, oEq, oIsN, isN_none, isN_int, isN_bool, isN_str, isN_list, isN_tup, truD, oIx, uSl, uPart, uNoP, oSl, uCB, oLen, oList, oTuple, oInt, oAbs, oAll, oAny, oSum, onB, onI, uIs, uIs2, isT, uCall, uCallP, pick, vw, vw1, okU, okX, nolU, nol, nols, startU, kOf, kQ, kT, onL, uSeqI, uRng1, uRng2, rOk, uEnum, uRep, uTupRev, uYes, ugN, ugT2, wipeU, setU, uIfQ, uRetQ, uSetQ, uPutQ, ixC, szD, List.map_cons, List.map_nil, List.length_cons, List.length_nil, List.replicate, List.cons_append, List.nil_append, List.getElem?_cons_zero, List.getElem?_cons_succ, List.set_cons_zero, List.set_cons_succ, Option.map_some, Option.map_none, List.getD, Option.getD_some, if_true, true_and, and_true, Nat.reduceAdd, Nat.reduceSub, reduceIte, Bool.false_eq_true, Bool.not_true, Bool.not_false]
    refine ⟨n, sy, r, rfl, hn0, by omega, by omega, by omega, hr, fun w hw aw => ?_⟩
    simp [vw_jk, at_0, at_1, at_2, at_3, at_4, ix_40, ix_41, ix_42, ix_43, boolsD_comp, intsD_comp, sh_int, sh_bool, sh_none, sh_str, ev_int, ev_bool, ev_str, ev_none, ev_ni, ev_in, uIfS, evT, ev, uRet, uRetO, uRetN, uDrop, uSet, uSetO, uMove, uFrz, uNext, uBreak, uCont, uApp, uIns, uPut, uPutA, uAug, uRaise, uVar, uC, uOp, uUn, uTru, uTst, uNot, uAnd, uOr, uAndV, uOrV, uNotV, uIf, uNil, uCons, argU, uTup, uLst, allD, onDs, onD, onT, onBool, oI, oIC, oAdd, oEq, oIsN, isN_none, isN_int, isN_bool, isN_str, isN_list, isN_tup, truD, oIx, uSl, uPart, uNoP, oSl, uCB, oLen, oList, oTuple, oInt, oAbs, oAll, oAny, oSum, onB, onI, uIs, uIs2, isT, uCall, uCallP, pick, vw, vw1, okU, okX, nolU, nol, nols, startU, kOf, kQ, kT, onL, uSeqI, uRng1, uRng2, rOk, uEnum, uRep, uTupRev, uYes, ugN, ugT2, wipeU, setU, uIfQ, uRetQ, uSetQ, uPutQ, ixC, szD, List.map_cons, List.map_nil, List.length_cons, List.length_nil, List.replicate, List.cons_append, List.nil_append, List.getElem?_cons_zero, List.getElem?_cons_succ, List.set_cons_zero, List.set_cons_succ, Option.map_some, Option.map_none, List.getD, Option.getD_some, if_true, true_and, and_true, Nat.reduceAdd, Nat.reduceSub, reduceIte, Bool.false_eq_true, Bool.not_true, Bool.not_false]
    rw [hN4]
    have al : allI (r.map PyData.int) = true := List.all_eq_true.mpr fun x hx => by
      obtain ⟨z, _, rfl⟩ := List.mem_map.mp hx
      rfl
    have lr : ((r.map PyData.int).length : Int) = n := by rw [List.length_map]; exact hr
    refine i_seq fun N5 hN5 => ?_
    simp [vw_jk, at_0, at_1, at_2, at_3, at_4, ix_40, ix_41, ix_42, ix_43, boolsD_comp, intsD_comp, sh_int, sh_bool, sh_none, sh_str, ev_int, ev_bool, ev_str, ev_none, ev_ni, ev_in, uIfS, evT, ev, uRet, uRetO, uRetN, uDrop, uSet, uSetO, uMove, uFrz, uNext, uBreak, uCont, uApp, uIns, uPut, uPutA, uAug, uRaise, uVar, uC, uOp, uUn, uTru, uTst, uNot, uAnd, uOr, uAndV, uOrV, uNotV, uIf, uNil, uCons, argU, uTup, uLst, allD, onDs, onD, onT, onBool, oI, oIC, oAdd, oEq, oIsN, isN_none, isN_int, isN_bool, isN_str, isN_list, isN_tup, truD, oIx, uSl, uPart, uNoP, oSl, uCB, oLen, oList, oTuple, oInt, oAbs, oAll, oAny, oSum, onB, onI, uIs, uIs2, isT, uCall, uCallP, pick, vw, vw1, okU, okX, nolU, nol, nols, startU, kOf, kQ, kT, onL, uSeqI, uRng1, uRng2, rOk, uEnum, uRep, uTupRev, uYes, ugN, ugT2, wipeU, setU, uIfQ, uRetQ, uSetQ, uPutQ, ixC, szD, List.map_cons, List.map_nil, List.length_cons, List.length_nil, List.replicate, List.cons_append, List.nil_append, List.getElem?_cons_zero, List.getElem?_cons_succ, List.set_cons_zero, List.set_cons_succ, Option.map_some, Option.map_none, List.getD, Option.getD_some, if_true, true_and, and_true, Nat.reduceAdd, Nat.reduceSub, reduceIte, Bool.false_eq_true, Bool.not_true, Bool.not_false]
    refine ⟨n, _, w, rfl, lr, hw, by omega, hn0, al, aw, ?_⟩
    simp [vw_jk, at_0, at_1, at_2, at_3, at_4, ix_40, ix_41, ix_42, ix_43, boolsD_comp, intsD_comp, sh_int, sh_bool, sh_none, sh_str, ev_int, ev_bool, ev_str, ev_none, ev_ni, ev_in, uIfS, evT, ev, uRet, uRetO, uRetN, uDrop, uSet, uSetO, uMove, uFrz, uNext, uBreak, uCont, uApp, uIns, uPut, uPutA, uAug, uRaise, uVar, uC, uOp, uUn, uTru, uTst, uNot, uAnd, uOr, uAndV, uOrV, uNotV, uIf, uNil, uCons, argU, uTup, uLst, allD, onDs, onD, onT, onBool, oI, oIC, oAdd, oEq, oIsN, isN_none, isN_int, isN_bool, isN_str, isN_list, isN_tup, truD, oIx, uSl, uPart, uNoP, oSl, uCB, oLen, oList, oTuple, oInt, oAbs, oAll, oAny, oSum, onB, onI, uIs, uIs2, isT, uCall, uCallP, pick, vw, vw1, okU, okX, nolU, nol, nols, startU, kOf, kQ, kT, onL, uSeqI, uRng1, uRng2, rOk, uEnum, uRep, uTupRev, uYes, ugN, ugT2, wipeU, setU, uIfQ, uRetQ, uSetQ, uPutQ, ixC, szD, List.map_cons, List.map_nil, List.length_cons, List.length_nil, List.replicate, List.cons_append, List.nil_append, List.getElem?_cons_zero, List.getElem?_cons_succ, List.set_cons_zero, List.set_cons_succ, Option.map_some, Option.map_none, List.getD, Option.getD_some, if_true, true_and, and_true, Nat.reduceAdd, Nat.reduceSub, reduceIte, Bool.false_eq_true, Bool.not_true, Bool.not_false]
    refine ⟨n, rfl, h0, hn, ?_⟩
    simp [vw_jk, at_0, at_1, at_2, at_3, at_4, ix_40, ix_41, ix_42, ix_43, boolsD_comp, intsD_comp, sh_int, sh_bool, sh_none, sh_str, ev_int, ev_bool, ev_str, ev_none, ev_ni, ev_in, uIfS, evT, ev, uRet, uRetO, uRetN, uDrop, uSet, uSetO, uMove, uFrz, uNext, uBreak, uCont, uApp, uIns, uPut, uPutA, uAug, uRaise, uVar, uC, uOp, uUn, uTru, uTst, uNot, uAnd, uOr, uAndV, uOrV, uNotV, uIf, uNil, uCons, argU, uTup, uLst, allD, onDs, onD, onT, onBool, oI, oIC, oAdd, oEq, oIsN, isN_none, isN_int, isN_bool, isN_str, isN_list, isN_tup, truD, oIx, uSl, uPart, uNoP, oSl, uCB, oLen, oList, oTuple, oInt, oAbs, oAll, oAny, oSum, onB, onI, uIs, uIs2, isT, uCall, uCallP, pick, vw, vw1, okU, okX, nolU, nol, nols, startU, kOf, kQ, kT, onL, uSeqI, uRng1, uRng2, rOk, uEnum, uRep, uTupRev, uYes, ugN, ugT2, wipeU, setU, uIfQ, uRetQ, uSetQ, uPutQ, ixC, szD, List.map_cons, List.map_nil, List.length_cons, List.length_nil, List.replicate, List.cons_append, List.nil_append, List.getElem?_cons_zero, List.getElem?_cons_succ, List.set_cons_zero, List.set_cons_succ, Option.map_some, Option.map_none, List.getD, Option.getD_some, if_true, true_and, and_true, Nat.reduceAdd, Nat.reduceSub, reduceIte, Bool.false_eq_true, Bool.not_true, Bool.not_false]
    rw [hN5]
    refine i_seq fun N6 hN6 => ?_
    simp [vw_jk, at_0, at_1, at_2, at_3, at_4, ix_40, ix_41, ix_42, ix_43, boolsD_comp, intsD_comp, sh_int, sh_bool, sh_none, sh_str, ev_int, ev_bool, ev_str, ev_none, ev_ni, ev_in, uIfS, evT, ev, uRet, uRetO, uRetN, uDrop, uSet, uSetO, uMove, uFrz, uNext, uBreak, uCont, uApp, uIns, uPut, uPutA, uAug, uRaise, uVar, uC, uOp, uUn, uTru, uTst, uNot, uAnd, uOr, uAndV, uOrV, uNotV, uIf, uNil, uCons, argU, uTup, uLst, allD, onDs, onD, onT, onBool, oI, oIC, oAdd, oEq, oIsN, isN_none, isN_int, isN_bool, isN_str, isN_list, isN_tup, truD, oIx, uSl, uPart, uNoP, oSl, uCB, oLen, oList, oTuple, oInt, oAbs, oAll, oAny, oSum, onB, onI, uIs, uIs2, isT, uCall, uCallP, pick, vw, vw1, okU, okX, nolU, nol, nols, startU, kOf, kQ, kT, onL, uSeqI, uRng1, uRng2, rOk, uEnum, uRep, uTupRev, uYes, ugN, ugT2, wipeU, setU, uIfQ, uRetQ, uSetQ, uPutQ, ixC, szD, List.map_cons, List.map_nil, List.length_cons, List.length_nil, List.replicate, List.cons_append, List.nil_append, List.getElem?_cons_zero, List.getElem?_cons_succ, List.set_cons_zero, List.set_cons_succ, Option.map_some, Option.map_none, List.getD, Option.getD_some, if_true, true_and, and_true, Nat.reduceAdd, Nat.reduceSub, reduceIte, Bool.false_eq_true, Bool.not_true, Bool.not_false]
    refine tk (by decide) (by decide) fun sc s0 s1 => ?_
    simp [vw_jk, at_0, at_1, at_2, at_3, at_4, ix_40, ix_41, ix_42, ix_43, boolsD_comp, intsD_comp, sh_int, sh_bool, sh_none, sh_str, ev_int, ev_bool, ev_str, ev_none, ev_ni, ev_in, uIfS, evT, ev, uRet, uRetO, uRetN, uDrop, uSet, uSetO, uMove, uFrz, uNext, uBreak, uCont, uApp, uIns, uPut, uPutA, uAug, uRaise, uVar, uC, uOp, uUn, uTru, uTst, uNot, uAnd, uOr, uAndV, uOrV, uNotV, uIf, uNil, uCons, argU, uTup, uLst, allD, onDs, onD, onT, onBool, oI, oIC, oAdd, oEq, oIsN, isN_none, isN_int, isN_bool, isN_str, isN_list, isN_tup, truD, oIx, uSl, uPart, uNoP, oSl, uCB, oLen, oList, oTuple, oInt, oAbs, oAll, oAny, oSum, onB, onI, uIs, uIs2, isT, uCall, uCallP, pick, vw, vw1, okU, okX, nolU, nol, nols, startU, kOf, kQ, kT, onL, uSeqI, uRng1, uRng2, rOk, uEnum, uRep, uTupRev, uYes, ugN, ugT2, wipeU, setU, uIfQ, uRetQ, uSetQ, uPutQ, ixC, szD, List.map_cons, List.map_nil, List.length_cons, List.length_nil, List.replicate, List.cons_append, List.nil_append, List.getElem?_cons_zero, List.getElem?_cons_succ, List.set_cons_zero, List.set_cons_succ, Option.map_some, Option.map_none, List.getD, Option.getD_some, if_true, true_and, and_true, Nat.reduceAdd, Nat.reduceSub, reduceIte, Bool.false_eq_true, Bool.not_true, Bool.not_false]
    rw [hN6]
    refine i_seq fun N7 hN7 => ?_
    simp [vw_jk, at_0, at_1, at_2, at_3, at_4, ix_40, ix_41, ix_42, ix_43, boolsD_comp, intsD_comp, sh_int, sh_bool, sh_none, sh_str, ev_int, ev_bool, ev_str, ev_none, ev_ni, ev_in, uIfS, evT, ev, uRet, uRetO, uRetN, uDrop, uSet, uSetO, uMove, uFrz, uNext, uBreak, uCont, uApp, uIns, uPut, uPutA, uAug, uRaise, uVar, uC, uOp, uUn, uTru, uTst, uNot, uAnd, uOr, uAndV, uOrV, uNotV, uIf, uNil, uCons, argU, uTup, uLst, allD, onDs, onD, onT, onBool, oI, oIC, oAdd, oEq, oIsN, isN_none, isN_int, isN_bool, isN_str, isN_list, isN_tup, truD, oIx, uSl, uPart, uNoP, oSl, uCB, oLen, oList, oTuple, oInt, oAbs, oAll, oAny, oSum, onB, onI, uIs, uIs2, isT, uCall, uCallP, pick, vw, vw1, okU, okX, nolU, nol, nols, startU, kOf, kQ, kT, onL, uSeqI, uRng1, uRng2, rOk, uEnum, uRep, uTupRev, uYes, ugN, ugT2, wipeU, setU, uIfQ, uRetQ, uSetQ, uPutQ, ixC, szD, List.map_cons, List.map_nil, List.length_cons, List.length_nil, List.replicate, List.cons_append, List.nil_append, List.getElem?_cons_zero, List.getElem?_cons_succ, List.set_cons_zero, List.set_cons_succ, Option.map_some, Option.map_none, List.getD, Option.getD_some, if_true, true_and, and_true, Nat.reduceAdd, Nat.reduceSub, reduceIte, Bool.false_eq_true, Bool.not_true, Bool.not_false]
    split
    · refine ⟨n, _, w, rfl, lr, hw, hn0, by omega, al, aw, ?_⟩
      simp [vw_jk, at_0, at_1, at_2, at_3, at_4, ix_40, ix_41, ix_42, ix_43, boolsD_comp, intsD_comp, sh_int, sh_bool, sh_none, sh_str, ev_int, ev_bool, ev_str, ev_none, ev_ni, ev_in, uIfS, evT, ev, uRet, uRetO, uRetN, uDrop, uSet, uSetO, uMove, uFrz, uNext, uBreak, uCont, uApp, uIns, uPut, uPutA, uAug, uRaise, uVar, uC, uOp, uUn, uTru, uTst, uNot, uAnd, uOr, uAndV, uOrV, uNotV, uIf, uNil, uCons, argU, uTup, uLst, allD, onDs, onD, onT, onBool, oI, oIC, oAdd, oEq, oIsN, isN_none, isN_int, isN_bool, isN_str, isN_list, isN_tup, truD, oIx, uSl, uPart, uNoP, oSl, uCB, oLen, oList, oTuple, oInt, oAbs, oAll, oAny, oSum, onB, onI, uIs, uIs2, isT, uCall, uCallP, pick, vw, vw1, okU, okX, nolU, nol, nols, startU, kOf, kQ, kT, onL, uSeqI, uRng1, uRng2, rOk, uEnum, uRep, uTupRev, uYes, ugN, ugT2, wipeU, setU, uIfQ, uRetQ, uSetQ, uPutQ, ixC, szD, List.map_cons, List.map_nil, List.length_cons, List.length_nil, List.replicate, List.cons_append, List.nil_append, List.getElem?_cons_zero, List.getElem?_cons_succ, List.set_cons_zero, List.set_cons_succ, Option.map_some, Option.map_none, List.getD, Option.getD_some, if_true, true_and, and_true, Nat.reduceAdd, Nat.reduceSub, reduceIte, Bool.false_eq_true, Bool.not_true, Bool.not_false]
      exact eT _ _ rfl
    · rw [hN7]
      simp [vw_jk, at_0, at_1, at_2, at_3, at_4, ix_40, ix_41, ix_42, ix_43, boolsD_comp, intsD_comp, sh_int, sh_bool, sh_none, sh_str, ev_int, ev_bool, ev_str, ev_none, ev_ni, ev_in, uIfS, evT, ev, uRet, uRetO, uRetN, uDrop, uSet, uSetO, uMove, uFrz, uNext, uBreak, uCont, uApp, uIns, uPut, uPutA, uAug, uRaise, uVar, uC, uOp, uUn, uTru, uTst, uNot, uAnd, uOr, uAndV, uOrV, uNotV, uIf, uNil, uCons, argU, uTup, uLst, allD, onDs, onD, onT, onBool, oI, oIC, oAdd, oEq, oIsN, isN_none, isN_int, isN_bool, isN_str, isN_list, isN_tup, truD, oIx, uSl, uPart, uNoP, oSl, uCB, oLen, oList, oTuple, oInt, oAbs, oAll, oAny, oSum, onB, onI, uIs, uIs2, isT, uCall, uCallP, pick, vw, vw1, okU, okX, nolU, nol, nols, startU, kOf, kQ, kT, onL, uSeqI, uRng1, uRng2, rOk, uEnum, uRep, uTupRev, uYes, ugN, ugT2, wipeU, setU, uIfQ, uRetQ, uSetQ, uPutQ, ixC, szD, List.map_cons, List.map_nil, List.length_cons, List.length_nil, List.replicate, List.cons_append, List.nil_append, List.getElem?_cons_zero, List.getElem?_cons_succ, List.set_cons_zero, List.set_cons_succ, Option.map_some, Option.map_none, List.getD, Option.getD_some, if_true, true_and, and_true, Nat.reduceAdd, Nat.reduceSub, reduceIte, Bool.false_eq_true, Bool.not_true, Bool.not_false]
      split
      · next h => exact eT _ _ (congrArg (fun b => U.d (.bool b)) (decide_eq_true h))
      · refine ⟨n, rfl, h0, hn, ?_⟩
        simp [vw_jk, at_0, at_1, at_2, at_3, at_4, ix_40, ix_41, ix_42, ix_43, boolsD_comp, intsD_comp, sh_int, sh_bool, sh_none, sh_str, ev_int, ev_bool, ev_str, ev_none, ev_ni, ev_in, uIfS, evT, ev, uRet, uRetO, uRetN, uDrop, uSet, uSetO, uMove, uFrz, uNext, uBreak, uCont, uApp, uIns, uPut, uPutA, uAug, uRaise, uVar, uC, uOp, uUn, uTru, uTst, uNot, uAnd, uOr, uAndV, uOrV, uNotV, uIf, uNil, uCons, argU, uTup, uLst, allD, onDs, onD, onT, onBool, oI, oIC, oAdd, oEq, oIsN, isN_none, isN_int, isN_bool, isN_str, isN_list, isN_tup, truD, oIx, uSl, uPart, uNoP, oSl, uCB, oLen, oList, oTuple, oInt, oAbs, oAll, oAny, oSum, onB, onI, uIs, uIs2, isT, uCall, uCallP, pick, vw, vw1, okU, okX, nolU, nol, nols, startU, kOf, kQ, kT, onL, uSeqI, uRng1, uRng2, rOk, uEnum, uRep, uTupRev, uYes, ugN, ugT2, wipeU, setU, uIfQ, uRetQ, uSetQ, uPutQ, ixC, szD, List.map_cons, List.map_nil, List.length_cons, List.length_nil, List.replicate, List.cons_append, List.nil_append, List.getElem?_cons_zero, List.getElem?_cons_succ, List.set_cons_zero, List.set_cons_succ, Option.map_some, Option.map_none, List.getD, Option.getD_some, if_true, true_and, and_true, Nat.reduceAdd, Nat.reduceSub, reduceIte, Bool.false_eq_true, Bool.not_true, Bool.not_false]
        exact eT _ _ rfl
  · intro L hL
    simp [vw_jk, at_0, at_1, at_2, at_3, at_4, ix_40, ix_41, ix_42, ix_43, boolsD_comp, intsD_comp, sh_int, sh_bool, sh_none, sh_str, ev_int, ev_bool, ev_str, ev_none, ev_ni, ev_in, uIfS, evT, ev, uRet, uRetO, uRetN, uDrop, uSet, uSetO, uMove, uFrz, uNext, uBreak, uCont, uApp, uIns, uPut, uPutA, uAug, uRaise, uVar, uC, uOp, uUn, uTru, uTst, uNot, uAnd, uOr, uAndV, uOrV, uNotV, uIf, uNil, uCons, argU, uTup, uLst, allD, onDs, onD, onT, onBool, oI, oIC, oAdd, oEq, oIsN, isN_none, isN_int, isN_bool, isN_str, isN_list, isN_tup, truD, oIx, uSl, uPart, uNoP, oSl, uCB, oLen, oList, oTuple, oInt, oAbs, oAll, oAny, oSum, onB, onI, uIs, uIs2, isT, uCall, uCallP, pick, vw, vw1, okU, okX, nolU, nol, nols, startU, kOf, kQ, kT, onL, uSeqI, uRng1, uRng2, rOk, uEnum, uRep, uTupRev, uYes, ugN, ugT2, wipeU, setU, uIfQ, uRetQ, uSetQ, uPutQ, ixC, szD, List.map_cons, List.map_nil, List.length_cons, List.length_nil, List.replicate, List.cons_append, List.nil_append, List.getElem?_cons_zero, List.getElem?_cons_succ, List.set_cons_zero, List.set_cons_succ, Option.map_some, Option.map_none, List.getD, Option.getD_some, if_true, true_and, and_true, Nat.reduceAdd, Nat.reduceSub, reduceIte, Bool.false_eq_true, Bool.not_true, Bool.not_false]
    refine tk (by decide) (by decide) fun b b0 b1 => ?_
    simp [vw_jk, at_0, at_1, at_2, at_3, at_4, ix_40, ix_41, ix_42, ix_43, boolsD_comp, intsD_comp, sh_int, sh_bool, sh_none, sh_str, ev_int, ev_bool, ev_str, ev_none, ev_ni, ev_in, uIfS, evT, ev, uRet, uRetO, uRetN, uDrop, uSet, uSetO, uMove, uFrz, uNext, uBreak, uCont, uApp, uIns, uPut, uPutA, uAug, uRaise, uVar, uC, uOp, uUn, uTru, uTst, uNot, uAnd, uOr, uAndV, uOrV, uNotV, uIf, uNil, uCons, argU, uTup, uLst, allD, onDs, onD, onT, onBool, oI, oIC, oAdd, oEq, oIsN, isN_none, isN_int, isN_bool, isN_str, isN_list, isN_tup, truD, oIx, uSl, uPart, uNoP, oSl, uCB, oLen, oList, oTuple, oInt, oAbs, oAll, oAny, oSum, onB, onI, uIs, uIs2, isT, uCall, uCallP, pick, vw, vw1, okU, okX, nolU, nol, nols, startU, kOf, kQ, kT, onL, uSeqI, uRng1, uRng2, rOk, uEnum, uRep, uTupRev, uYes, ugN, ugT2, wipeU, setU, uIfQ, uRetQ, uSetQ, uPutQ, ixC, szD, List.map_cons, List.map_nil, List.length_cons, List.length_nil, List.replicate, List.cons_append, List.nil_append, List.getElem?_cons_zero, List.getElem?_cons_succ, List.set_cons_zero, List.set_cons_succ, Option.map_some, Option.map_none, List.getD, Option.getD_some, if_true, true_and, and_true, Nat.reduceAdd, Nat.reduceSub, reduceIte, Bool.false_eq_true, Bool.not_true, Bool.not_false]
    split
    · refine ⟨by decide, ?_⟩
      refine tk (by decide) (by decide) fun c c0 c1 => ?_
      simp [vw_jk, at_0, at_1, at_2, at_3, at_4, ix_40, ix_41, ix_42, ix_43, boolsD_comp, intsD_comp, sh_int, sh_bool, sh_none, sh_str, ev_int, ev_bool, ev_str, ev_none, ev_ni, ev_in, uIfS, evT, ev, uRet, uRetO, uRetN, uDrop, uSet, uSetO, uMove, uFrz, uNext, uBreak, uCont, uApp, uIns, uPut, uPutA, uAug, uRaise, uVar, uC, uOp, uUn, uTru, uTst, uNot, uAnd, uOr, uAndV, uOrV, uNotV, uIf, uNil, uCons, argU, uTup, uLst, allD, onDs, onD, onT, onBool, oI, oIC, oAdd, oEq, oIsN, isN_none, isN_int, isN_bool, isN_str, isN_list, isN_tup, truD, oIx, uSl, uPart, uNoP, oSl, uCB, oLen, oList, oTuple, oInt, oAbs, oAll, oAny, oSum, onB, onI, uIs, uIs2, isT, uCall, uCallP, pick, vw, vw1, okU, okX, nolU, nol, nols, startU, kOf, kQ, kT, onL, uSeqI, uRng1, uRng2, rOk, uEnum, uRep, uTupRev, uYes, ugN, ugT2, wipeU, setU, uIfQ, uRetQ, uSetQ, uPutQ, ixC, szD, List.map_cons, List.map_nil, List.length_cons, List.length_nil, List.replicate, List.cons_append, List.nil_append, List.getElem?_cons_zero, List.getElem?_cons_succ, List.set_cons_zero, List.set_cons_succ, Option.map_some, Option.map_none, List.getD, Option.getD_some, if_true, true_and, and_true, Nat.reduceAdd, Nat.reduceSub, reduceIte, Bool.false_eq_true, Bool.not_true, Bool.not_false]
      obtain ⟨m, hm, m0, m1⟩ : ∃ m : Int, atI [PyData.int 200, PyData.int 48, PyData.int 60, PyData.int 90] c = some (.int m) ∧ 0 < m ∧ m ≤ 200 := by
        have hc : c = 0 ∨ c = 1 ∨ c = 2 ∨ c = 3 := by omega
        rcases hc with rfl | rfl | rfl | rfl
        · exact ⟨200, at_0, by decide, by decide⟩
        · exact ⟨48, at_1, by decide, by decide⟩
        · exact ⟨60, at_2, by decide, by decide⟩
        · exact ⟨90, at_3, by decide, by decide⟩
      simp [vw_jk, at_0, at_1, at_2, at_3, at_4, ix_40, ix_41, ix_42, ix_43, boolsD_comp, intsD_comp, sh_int, sh_bool, sh_none, sh_str, ev_int, ev_bool, ev_str, ev_none, ev_ni, ev_in, uIfS, evT, ev, uRet, uRetO, uRetN, uDrop, uSet, uSetO, uMove, uFrz, uNext, uBreak, uCont, uApp, uIns, uPut, uPutA, uAug, uRaise, uVar, uC, uOp, uUn, uTru, uTst, uNot, uAnd, uOr, uAndV, uOrV, uNotV, uIf, uNil, uCons, argU, uTup, uLst, allD, onDs, onD, onT, onBool, oI, oIC, oAdd, oEq, oIsN, isN_none, isN_int, isN_bool, isN_str, isN_list, isN_tup, truD, oIx, uSl, uPart, uNoP, oSl, uCB, oLen, oList, oTuple, oInt, oAbs, oAll, oAny, oSum, onB, onI, uIs, uIs2, isT, uCall, uCallP, pick, vw, vw1, okU, okX, nolU, nol, nols, startU, kOf, kQ, kT, onL, uSeqI, uRng1, uRng2, rOk, uEnum, uRep, uTupRev, uYes, ugN, ugT2, wipeU, setU, uIfQ, uRetQ, uSetQ, uPutQ, ixC, szD, List.map_cons, List.map_nil, List.length_cons, List.length_nil, List.replicate, List.cons_append, List.nil_append, List.getElem?_cons_zero, List.getElem?_cons_succ, List.set_cons_zero, List.set_cons_succ, Option.map_some, Option.map_none, List.getD, Option.getD_some, if_true, true_and, and_true, Nat.reduceAdd, Nat.reduceSub, reduceIte, Bool.false_eq_true, Bool.not_true, Bool.not_false, hm]
      refine tk m0 (lgS (by omega)) fun x x0 x1 => ?_
      simp [vw_jk, at_0, at_1, at_2, at_3, at_4, ix_40, ix_41, ix_42, ix_43, boolsD_comp, intsD_comp, sh_int, sh_bool, sh_none, sh_str, ev_int, ev_bool, ev_str, ev_none, ev_ni, ev_in, uIfS, evT, ev, uRet, uRetO, uRetN, uDrop, uSet, uSetO, uMove, uFrz, uNext, uBreak, uCont, uApp, uIns, uPut, uPutA, uAug, uRaise, uVar, uC, uOp, uUn, uTru, uTst, uNot, uAnd, uOr, uAndV, uOrV, uNotV, uIf, uNil, uCons, argU, uTup, uLst, allD, onDs, onD, onT, onBool, oI, oIC, oAdd, oEq, oIsN, isN_none, isN_int, isN_bool, isN_str, isN_list, isN_tup, truD, oIx, uSl, uPart, uNoP, oSl, uCB, oLen, oList, oTuple, oInt, oAbs, oAll, oAny, oSum, onB, onI, uIs, uIs2, isT, uCall, uCallP, pick, vw, vw1, okU, okX, nolU, nol, nols, startU, kOf, kQ, kT, onL, uSeqI, uRng1, uRng2, rOk, uEnum, uRep, uTupRev, uYes, ugN, ugT2, wipeU, setU, uIfQ, uRetQ, uSetQ, uPutQ, ixC, szD, List.map_cons, List.map_nil, List.length_cons, List.length_nil, List.replicate, List.cons_append, List.nil_append, List.getElem?_cons_zero, List.getElem?_cons_succ, List.set_cons_zero, List.set_cons_succ, Option.map_some, Option.map_none, List.getD, Option.getD_some, if_true, true_and, and_true, Nat.reduceAdd, Nat.reduceSub, reduceIte, Bool.false_eq_true, Bool.not_true, Bool.not_false]
      obtain ⟨n, hn⟩ : ∃ n : Nat, 1 + x = n := ⟨(1 + x).toNat, by omega⟩
      rw [hn]
      exact hL _ ⟨n, rfl, by omega, by omega⟩
    · obtain ⟨n, hn⟩ : ∃ n : Nat, 1 + a = n := ⟨(1 + a).toNat, by omega⟩
      rw [hn]
      exact hL _ ⟨n, rfl, by omega, by omega⟩
theorem all_ok (T : Tk P K mg) : ∃ fd, Fun K "law" "law" s_law (He.ga K "law") fd ∧ (∀ (s : Shared) (v : Value), BindsTo s fd ⟨[v], []⟩ [("_law_script", v)]) ∧ FnOk P w K mg base (L2.CX P w) 9 (He.ga K "law") fd ["_law_script"] (spLaw K) := by
  obtain ⟨fd__law_a_hold, h__law_a_hold⟩ := has__law_a_hold (P := P) (w := w) (base := base) T 
  obtain ⟨fd__law_take, h__law_take⟩ := has__law_take (P := P) (w := w) (base := base) T 
  obtain ⟨fd__law_a_symbols, h__law_a_symbols⟩ := has__law_a_symbols (P := P) (w := w) (base := base) T h__law_take
  obtain ⟨fd__law_a_row, h__law_a_row⟩ := has__law_a_row (P := P) (w := w) (base := base) T h__law_take
  obtain ⟨fd__law_a_wished, h__law_a_wished⟩ := has__law_a_wished (P := P) (w := w) (base := base) T h__law_take
  obtain ⟨fd__law_a_odds, h__law_a_odds⟩ := has__law_a_odds (P := P) (w := w) (base := base) T h__law_take
  obtain ⟨fd__law_same, h__law_same⟩ := has__law_same (P := P) (w := w) (base := base) T 
  obtain ⟨fd_is_integer, h_is_integer⟩ := has_is_integer (P := P) (w := w) (base := base) T 
  obtain ⟨fd_is_number, h_is_number⟩ := has_is_number (P := P) (w := w) (base := base) T h_is_integer
  obtain ⟨fd_throws_of, h_throws_of⟩ := has_throws_of (P := P) (w := w) (base := base) T h_is_number
  obtain ⟨fd_need_both, h_need_both⟩ := has_need_both (P := P) (w := w) (base := base) T h_is_integer
  obtain ⟨fd_agreements, h_agreements⟩ := has_agreements (P := P) (w := w) (base := base) T h_need_both
  obtain ⟨fd_matches, h_matches⟩ := has_matches (P := P) (w := w) (base := base) T h_agreements
  obtain ⟨fd__law_heard, h__law_heard⟩ := has__law_heard (P := P) (w := w) (base := base) T h_throws_of h_agreements h_matches
  obtain ⟨fd__law_odd_rows, h__law_odd_rows⟩ := has__law_odd_rows (P := P) (w := w) (base := base) T h__law_a_odds h__law_same h__law_heard
  obtain ⟨fd__law_listed, h__law_listed⟩ := has__law_listed (P := P) (w := w) (base := base) T 
  obtain ⟨fd__law_odd_throws, h__law_odd_throws⟩ := has__law_odd_throws (P := P) (w := w) (base := base) T h__law_take h__law_same h__law_heard h__law_listed
  obtain ⟨fd__law_a_counts, h__law_a_counts⟩ := has__law_a_counts (P := P) (w := w) (base := base) T 
  obtain ⟨fd__law_turned, h__law_turned⟩ := has__law_turned (P := P) (w := w) (base := base) T 
  obtain ⟨fd__law_matches_right, h__law_matches_right⟩ := has__law_matches_right (P := P) (w := w) (base := base) T h__law_a_counts h__law_turned h__law_same h_matches h_agreements
  obtain ⟨fd__law_joined, h__law_joined⟩ := has__law_joined (P := P) (w := w) (base := base) T 
  obtain ⟨fd__law_halved, h__law_halved⟩ := has__law_halved (P := P) (w := w) (base := base) T h__law_joined
  obtain ⟨fd__law_throws_right, h__law_throws_right⟩ := has__law_throws_right (P := P) (w := w) (base := base) T h__law_take h__law_same h__law_halved h__law_listed h_throws_of
  exact ok_law T h__law_a_hold h__law_a_symbols h__law_a_row h__law_a_wished h__law_take h__law_odd_rows h__law_odd_throws h__law_matches_right h__law_throws_right
abbrev lawK : Nat := 9
def mkD (x : Str) (st : Stmt) : He.FnD := ⟨(x, none), x, x, defArgs st, defBody st, defScope st⟩
def fn : List He.FnD := [mkD "is_integer" s_is_integer, mkD "is_number" s_is_number, mkD "need_both" s_need_both, mkD "agreements" s_agreements, mkD "matches" s_matches, mkD "throws_of" s_throws_of, mkD "_law_a_hold" s__law_a_hold, mkD "_law_take" s__law_take, mkD "_law_same" s__law_same, mkD "_law_a_symbols" s__law_a_symbols, mkD "_law_a_row" s__law_a_row, mkD "_law_a_wished" s__law_a_wished, mkD "_law_a_counts" s__law_a_counts, mkD "_law_turned" s__law_turned, mkD "_law_matches_right" s__law_matches_right, mkD "_law_listed" s__law_listed, mkD "_law_joined" s__law_joined, mkD "_law_halved" s__law_halved, mkD "_law_throws_right" s__law_throws_right, mkD "_law_heard" s__law_heard, mkD "_law_a_odds" s__law_a_odds, mkD "_law_odd_rows" s__law_odd_rows, mkD "_law_odd_throws" s__law_odd_throws, mkD "law" s_law]
def fa : List He.Fa := [.glo "is_integer", .glo "is_number", .glo "need_both", .glo "agreements", .glo "matches", .glo "throws_of", .glo "_law_a_hold", .glo "_law_take", .glo "_law_same", .glo "_law_a_symbols", .glo "_law_a_row", .glo "_law_a_wished", .glo "_law_a_counts", .glo "_law_turned", .glo "_law_matches_right", .glo "_law_listed", .glo "_law_joined", .glo "_law_halved", .glo "_law_throws_right", .glo "_law_heard", .glo "_law_a_odds", .glo "_law_odd_rows", .glo "_law_odd_throws", .glo "law", .keep "is_integer", .keep "is_number", .keep "need_both", .keep "agreements", .keep "matches", .keep "throws_of", .keep "_law_a_hold", .keep "_law_take", .keep "_law_same", .keep "_law_a_symbols", .keep "_law_a_row", .keep "_law_a_wished", .keep "_law_a_counts", .keep "_law_turned", .keep "_law_matches_right", .keep "_law_listed", .keep "_law_joined", .keep "_law_halved", .keep "_law_throws_right", .keep "_law_heard", .keep "_law_a_odds", .keep "_law_odd_rows", .keep "_law_odd_throws", .keep "law", .free "ValueError", .free "range", .free "tuple", .free "len", .free "isinstance", .free "int", .free "all", .free "list", .free "bool", .free "enumerate", .free "str", .free "super", .free "reversed", .glo "WheelError", .glo "BoardError", .glo "NotUsable", .exm "NotUsable" "NotUsable" true, .exm "NotUsable" "BoardError" true, .exm "NotUsable" "WheelError" true]
theorem fun_at {K : Fr} (c : He.SaysE fa fn K) {i j : Nat} {x : Str} {st : Stmt} (h : fn[i]? = some (mkD x st)) (hk : fa[j]? = some (.keep x)) : ∃ fd, Fun K x x st (He.ga K x) fd := by
  obtain ⟨oc, od, osl, kV, doc, pm, an, cdv, ct, l, cd⟩ := c.def_ i h
  exact ⟨_, fun_mk (st := st) l cd (He.keep_ok (c.fact j hk))⟩
/-- the written part, told by names -/
theorem tk_mk {P : Program} {K : Fr} {h : Heap} {mg : Str → Option Value} (X : K.In h) (G : h.Ns mainGlobals mg) (c : He.SaysE fa fn K)
    (x_NotUsable : PySem.XSup.Txt P K (He.ga K "NotUsable") (He.ma K (He.ga K "NotUsable") "__init__") "NotUsable")
    (xf : XfC K (He.ga K "NotUsable"))
    (ec : ExcC K (He.ga K "NotUsable"))
    (i1 : PySem.W.kitOne K (.ref (He.ga K "NotUsable")) (.ref (He.ga K "NotUsable")) = some true)
    (i2 : PySem.W.kitOne K (.ref (He.ga K "NotUsable")) (.ref (He.ga K "BoardError")) = some true)
    (em : PySem.W.exmOne K (.ref (He.ga K "NotUsable")) (.ref (He.ga K "WheelError")) = some true)
    : Tk P K mg :=
  { n_ValueError := He.free_ok X G (c.fact 48 (f := .free "ValueError") rfl),
    n_range := He.free_ok X G (c.fact 49 (f := .free "range") rfl),
    n_tuple := He.free_ok X G (c.fact 50 (f := .free "tuple") rfl),
    n_len := He.free_ok X G (c.fact 51 (f := .free "len") rfl),
    n_isinstance := He.free_ok X G (c.fact 52 (f := .free "isinstance") rfl),
    n_int := He.free_ok X G (c.fact 53 (f := .free "int") rfl),
    n_all := He.free_ok X G (c.fact 54 (f := .free "all") rfl),
    n_list := He.free_ok X G (c.fact 55 (f := .free "list") rfl),
    n_bool := He.free_ok X G (c.fact 56 (f := .free "bool") rfl),
    n_enumerate := He.free_ok X G (c.fact 57 (f := .free "enumerate") rfl),
    n_str := He.free_ok X G (c.fact 58 (f := .free "str") rfl),
    n_super := He.free_ok X G (c.fact 59 (f := .free "super") rfl),
    n_reversed := He.free_ok X G (c.fact 60 (f := .free "reversed") rfl),
    g_is_integer := He.glo_ok X G (c.fact 0 (f := .glo "is_integer") rfl),
    f_is_integer := fun_at c (i := 0) (j := 24) rfl rfl,
    g_is_number := He.glo_ok X G (c.fact 1 (f := .glo "is_number") rfl),
    f_is_number := fun_at c (i := 1) (j := 25) rfl rfl,
    g_need_both := He.glo_ok X G (c.fact 2 (f := .glo "need_both") rfl),
    f_need_both := fun_at c (i := 2) (j := 26) rfl rfl,
    g_agreements := He.glo_ok X G (c.fact 3 (f := .glo "agreements") rfl),
    f_agreements := fun_at c (i := 3) (j := 27) rfl rfl,
    g_matches := He.glo_ok X G (c.fact 4 (f := .glo "matches") rfl),
    f_matches := fun_at c (i := 4) (j := 28) rfl rfl,
    g_throws_of := He.glo_ok X G (c.fact 5 (f := .glo "throws_of") rfl),
    f_throws_of := fun_at c (i := 5) (j := 29) rfl rfl,
    g__law_a_hold := He.glo_ok X G (c.fact 6 (f := .glo "_law_a_hold") rfl),
    f__law_a_hold := fun_at c (i := 6) (j := 30) rfl rfl,
    g__law_take := He.glo_ok X G (c.fact 7 (f := .glo "_law_take") rfl),
    f__law_take := fun_at c (i := 7) (j := 31) rfl rfl,
    g__law_same := He.glo_ok X G (c.fact 8 (f := .glo "_law_same") rfl),
    f__law_same := fun_at c (i := 8) (j := 32) rfl rfl,
    g__law_a_symbols := He.glo_ok X G (c.fact 9 (f := .glo "_law_a_symbols") rfl),
    f__law_a_symbols := fun_at c (i := 9) (j := 33) rfl rfl,
    g__law_a_row := He.glo_ok X G (c.fact 10 (f := .glo "_law_a_row") rfl),
    f__law_a_row := fun_at c (i := 10) (j := 34) rfl rfl,
    g__law_a_wished := He.glo_ok X G (c.fact 11 (f := .glo "_law_a_wished") rfl),
    f__law_a_wished := fun_at c (i := 11) (j := 35) rfl rfl,
    g__law_a_counts := He.glo_ok X G (c.fact 12 (f := .glo "_law_a_counts") rfl),
    f__law_a_counts := fun_at c (i := 12) (j := 36) rfl rfl,
    g__law_turned := He.glo_ok X G (c.fact 13 (f := .glo "_law_turned") rfl),
    f__law_turned := fun_at c (i := 13) (j := 37) rfl rfl,
    g__law_matches_right := He.glo_ok X G (c.fact 14 (f := .glo "_law_matches_right") rfl),
    f__law_matches_right := fun_at c (i := 14) (j := 38) rfl rfl,
    g__law_listed := He.glo_ok X G (c.fact 15 (f := .glo "_law_listed") rfl),
    f__law_listed := fun_at c (i := 15) (j := 39) rfl rfl,
    g__law_joined := He.glo_ok X G (c.fact 16 (f := .glo "_law_joined") rfl),
    f__law_joined := fun_at c (i := 16) (j := 40) rfl rfl,
    g__law_halved := He.glo_ok X G (c.fact 17 (f := .glo "_law_halved") rfl),
    f__law_halved := fun_at c (i := 17) (j := 41) rfl rfl,
    g__law_throws_right := He.glo_ok X G (c.fact 18 (f := .glo "_law_throws_right") rfl),
    f__law_throws_right := fun_at c (i := 18) (j := 42) rfl rfl,
    g__law_heard := He.glo_ok X G (c.fact 19 (f := .glo "_law_heard") rfl),
    f__law_heard := fun_at c (i := 19) (j := 43) rfl rfl,
    g__law_a_odds := He.glo_ok X G (c.fact 20 (f := .glo "_law_a_odds") rfl),
    f__law_a_odds := fun_at c (i := 20) (j := 44) rfl rfl,
    g__law_odd_rows := He.glo_ok X G (c.fact 21 (f := .glo "_law_odd_rows") rfl),
    f__law_odd_rows := fun_at c (i := 21) (j := 45) rfl rfl,
    g__law_odd_throws := He.glo_ok X G (c.fact 22 (f := .glo "_law_odd_throws") rfl),
    f__law_odd_throws := fun_at c (i := 22) (j := 46) rfl rfl,
    g_law := He.glo_ok X G (c.fact 23 (f := .glo "law") rfl),
    f_law := fun_at c (i := 23) (j := 47) rfl rfl,
    g_WheelError := He.glo_ok X G (c.fact 61 (f := .glo "WheelError") rfl),
    g_BoardError := He.glo_ok X G (c.fact 62 (f := .glo "BoardError") rfl),
    g_NotUsable := He.glo_ok X G (c.fact 63 (f := .glo "NotUsable") rfl),
    x_NotUsable := x_NotUsable,
    xf := xf,
    ec := ec,
    i1 := i1,
    i2 := i2,
    em := em }
theorem exm_NotUsable_NotUsable {K : Fr} (c : He.SaysE fa fn K) : PySem.W.exmOne K (.ref (He.ga K "NotUsable")) (.ref (He.ga K "NotUsable")) = some true := He.exm_ok (c.fact 64 (f := .exm "NotUsable" "NotUsable" true) rfl)
theorem exm_NotUsable_BoardError {K : Fr} (c : He.SaysE fa fn K) : PySem.W.exmOne K (.ref (He.ga K "NotUsable")) (.ref (He.ga K "BoardError")) = some true := He.exm_ok (c.fact 65 (f := .exm "NotUsable" "BoardError" true) rfl)
theorem exm_NotUsable_WheelError {K : Fr} (c : He.SaysE fa fn K) : PySem.W.exmOne K (.ref (He.ga K "NotUsable")) (.ref (He.ga K "WheelError")) = some true := He.exm_ok (c.fact 66 (f := .exm "NotUsable" "WheelError" true) rfl)
theorem kit_of_exm {K : Fr} {t c : Value} (h : PySem.W.exmOne K t c = some true) : PySem.W.kitOne K t c = some true := by
  unfold PySem.W.exmOne at h
  split at h
  · unfold PySem.W.kitOne
    split
    · rfl
    · exact h
  · cases h
def q0 (n : Nat) : Pos := [⟨9, 8, 9, 13⟩, ⟨9, 8, 9, 15⟩, ⟨9, 8, 9, 24⟩, ⟨9, 25, 9, 46⟩, ⟨9, 8, 9, 47⟩, ⟨9, 8, 9, 47⟩, ⟨10, 8, 10, 12⟩, ⟨10, 8, 10, 17⟩, ⟨10, 20, 10, 24⟩, ⟨10, 8, 10, 24⟩, ⟨11, 8, 11, 12⟩, ⟨11, 8, 11, 15⟩, ⟨11, 18, 11, 20⟩, ⟨11, 8, 11, 20⟩].getD n ⟨0, 0, 0, 0⟩
abbrev a0 : Arguments := PySem.XSup.xA ⟨8, 17, 8, 21⟩ ⟨8, 23, 8, 27⟩ ⟨8, 29, 8, 31⟩
abbrev b0 : List Stmt := PySem.XSup.xB "argument not usable" 0 q0
theorem fin {P : Program} {w : World} {K : Fr} {h : Heap} {mg : Str → Option Value} {fa0 C f1 cda cc : Addr} (X : K.In h) (G : h.Ns mainGlobals mg) (hfa : mg "law" = some (.ref fa0)) (c : He.SaysE fa fn K)
    {nm q : Str} {N : Addr} {bs bm : List Value} {sn : List Str} {sub : List Value} {ab : Bool} {col : Option Bool} {dd : Option Addr} {m0 m1 m2 m3 m5 : Option Value}
    {oc1 dc1 pm1 ct1 ccl cl : Value} {od1 an1 cdd cld : Option Addr} {sl1 ccs csl : Array (Option Value)} {vs : Array Value} {file : Str} {tf : Tok}
    (aC : PySem.W.nsIn K mainGlobals "NotUsable" = some (some (.ref C)))
    (xL : K.lookup C = some (excClassObj nm q C N bs bm true sn sub ab col dd m0 m1 m2 m3 m5 "ValueError.__new__")) (rb : PySem.HandSPX.refsVE bm = true)
    (sa : PySem.W.findIn K (.ref C) "__setattr__" = some (some (.builtin "object.__setattr__"))) (nw : PySem.W.findIn K (.ref C) "word" = some none) (na : PySem.W.findIn K (.ref C) "at" = some none)
    (a1 : PySem.W.findIn K (.ref C) "__init__" = some (some (.ref f1))) (t1 : PySem.W.typeIn K (.ref f1) = some (.type "function")) (kC : PySem.W.keepIn K (.ref C) = true)
    (eC : PySem.W.subIn K (.ref C) (.type "BaseException") = some true) (vC : PySem.W.subIn K (.ref C) (.type "ValueError") = some true) (tC : PySem.W.typeIn K (.ref C) = some (.type "type"))
    (mC : PySem.W.mroIn K C (.ref C) = some true) (sC : PySem.W.ks_superIn K C C "__init__" = some (some (.builtin "ValueError.__init__"))) (oq : PySem.W.nsIn K cStatics "thirdparty.any" = some none)
    (l1 : K.lookup f1 = some ⟨oc1, od1, .func (PySem.W.ksFn "__init__" "NotUsable.__init__" a0 b0 PySem.XSup.xS .none .none dc1 pm1 an1 (.ref cda) ct1 cc), sl1⟩) (c1 : PySem.W.codeIn K (.ref cda) "NotUsable.__init__" = true)
    (lc : K.lookup cda = some ⟨ccl, cdd, .fields vs, ccs⟩) (hv : vs[2]? = some (.str file tf)) (hf : ((P.main.file : Str) == file) = true) (lk : K.lookup cc = some ⟨cl, cld, .cell (some (.ref C)), csl⟩)
    (hs : (P.main.scope.names.lookup ("super" : Str)).isSome = false)
    (ga : PySem.W.findIn K (.ref C) "__getattribute__" = some (some (.builtin "BaseException.__getattribute__"))) (gg : PySem.W.findIn K (.ref C) "__getattr__" = some none) (hd : PySem.W.hasDictIn K C = true)
    (hc : PySem.W.findIn K (.ref C) "__class__" = some (some (.builtin "object.__class__"))) (sg : PySem.W.specialIn K (.builtin "object.__class__") "__get__" = some (some (.builtin "getset_descriptor.__get__")))
    (tk : PySem.W.takesIn K (.builtin "object.__class__") = some true) (mo : PySem.W.mroIn K C (.type "object") = some true) :
    ∃ fd : FuncData, (∀ (s : Shared) (v : Value), BindsTo s fd ⟨[v], []⟩ [("_law_script", v)]) ∧ ∀ base : Heap, K.In base → base.Ns mainGlobals mg → FnOk P w K mg base (L2.CX P w) lawK fa0 fd ["_law_script"] (spLaw K) := by
  have eC0 : He.ga K "NotUsable" = C := by unfold He.ga; rw [aC]
  have eI0 : He.ma K (He.ga K "NotUsable") "__init__" = f1 := by rw [eC0]; unfold He.ma; rw [a1]
  have T : Tk P K mg := tk_mk X G c
    (by
      rw [eI0, eC0]
      exact ⟨⟨nm, q, N, bs, bm, sn, sub, ab, col, dd, m0, m1, m2, m3, m5, xL, rb⟩, sa, nw, na, a1, t1, kC, eC, vC, tC, mC, sC, rfl, oq, ⟨oc1, od1, .none, .none, dc1, pm1, an1, cda, ct1, cc, sl1, _, _, _, _, _, _, q0, ccl, cdd, vs, ccs, file, tf, cl, cld, csl, l1, c1, rfl, rfl, lc, hv, hf, rfl, lk⟩, hs⟩)
    (by rw [eC0]; exact ⟨ga, gg, eC, hd⟩) (by rw [eC0]; exact ⟨ga, gg, eC, hd, hc, sg, tk, mo⟩)
    (kit_of_exm (exm_NotUsable_NotUsable c)) (kit_of_exm (exm_NotUsable_BoardError c)) (exm_NotUsable_WheelError c)
  have e : fa0 = He.ga K "law" := by
    have := hfa.symm.trans T.g_law
    injection this with this
    injection this
  subst e
  obtain ⟨fd, F, hb, _⟩ := all_ok (P := P) (w := w) (base := h) T
  refine ⟨fd, hb, fun base _ _ => ?_⟩
  obtain ⟨fd2, F2, _, ok⟩ := all_ok (P := P) (w := w) (base := base) T
  have ee : fd2 = fd := by
    obtain ⟨oc, od, kV, doc, pm, an, cdv, ct, osl, e1, l2, _⟩ := F.ex
    obtain ⟨oc', od', kV', doc', pm', an', cdv', ct', osl', e1', l2', _⟩ := F2.ex
    rw [l2] at l2'
    injection l2' with l3
    injection l3 with _ _ l4 _
    injection l4 with l5
    exact l5.symm
  rw [ee] at ok
  exact ok
theorem walk {l : PySem.W.OpenLaw} {q : Program} {loose : List Str} {XP : (Str → Option Value) → Heap → Prop} {YP : World → Heap → Prop} {d : DefRec} {K : Params → PySem.W.Frag} (hn : l.most = some 63) (hdf : d.params.defaults = [])
    (hY : ∀ (w : World) (h : Heap), YP w h → (K w.params).In h)
    (F : ∀ (w : World) (mg : Str → Option Value) (fa : Addr) (h : Heap), (K w.params).In h → h.Ns mainGlobals mg → mg d.name = some (.ref fa) →
      ∃ fd : FuncData, (∀ (s : Shared) (u : Value), BindsTo s fd ⟨[u], []⟩ [("_law_script", u)]) ∧ ∀ base : Heap, (K w.params).In base → base.Ns mainGlobals mg → FnOk l.prog w (K w.params) mg base (L2.CX l.prog w) lawK fa fd ["_law_script"] (spLaw (K w.params))) :
    PySem.W.WalkO q loose XP YP l.row.toRowW d [] (fun f vs => PySem.call f vs) :=
  L2.walk_of (n := 63) (k := lawK) (x := "_law_script") (CX := fun w => L2.CX l.prog w) (sp := fun w => spLaw (K w.params)) hn (by decide) hdf ⟨rfl, by decide, by decide⟩ hY F (fun _ _ a ns hl _ hS => ⟨a, ns, rfl, hl, hS, fun _ => rfl⟩) fun _ _ _ _ _ z => by
    obtain ⟨_, _, _, _, _, _, _, _, _, _, _, _, z⟩ := z
    exact z.elim
end K40
open PySem PySem.W PyProof.Rows
set_option maxRecDepth 100000 in
set_option maxHeartbeats 0 in
theorem PySem.Challenge.cw_wheelwritten_k40_whole_agreements_and_th_holds : PySem.Challenge.rw_wheelwritten_k40_whole_agreements_and_th.Holds := by
  w_on; o_law; k_head; (case hw => w_witness2)
  k_fill
  refine K40.walk (l := PySem.Challenge.rw_wheelwritten_k40_whole_agreements_and_th) rfl rfl (fun w h Y => PySem.W.kIn_of Y) ?F
  case F =>
    intro w mg fa h KX G hmg
    refine' K40.fin KX G hmg ?says ?aC ?xL ?rb ?sa ?nw ?na ?a1 ?t1 ?kC ?eC ?vC ?tC ?mC ?sC ?oq ?l1 ?c1 ?lc ?hv ?hf ?lk ?hs ?ga ?gg ?hd ?hcl ?sg ?tk ?mo
    (case aC => k_is); (case xL => k_is); (case rb => first | rfl | decide +kernel); (case sa => k_is); (case nw => k_is); (case na => k_is)
    (case a1 => k_is); (case t1 => k_is); (case kC => k_is); (case eC => k_is); (case vC => k_is); (case tC => k_is); (case mC => k_is)
    (case sC => first | k_is | kernel_rfl | rfl)
    (case oq => k_is); (case l1 => k_is); (case c1 => k_is); (case lc => k_is); (case hv => rfl); (case hf => first | rfl | decide +kernel); (case lk => k_is); (case hs => first | rfl | decide +kernel)
    (case ga => k_is); (case gg => k_is); (case hd => k_is); (case hcl => k_is); (case sg => k_is); (case tk => k_is); (case mo => k_is)
    (case says => show He.obsE K40.fa K40.fn _ = He.valE K40.fn; kernel_rfl)
#print axioms PySem.Challenge.cw_wheelwritten_k40_whole_agreements_and_th_holds
