import PyProof.Rows.All
import Wide.All
import OpenK.AllK
import Wide.FinOn
import HandS.ForMost
import HandS.ForExc
import HandS.Walk
import HandS.IsInst
import HandS.Wide
import HandS.Deep
import HandS.Zip
import HandS.EndBits
import HandS.TupAny
import HandS.Flow
import KE.GoesNew
import HandS.Style
import KE.SortData
import KE.SortCalls
import KE.KeyNested
import HandS.TupSets
import PySem.Challenge.RW_notinvain_k07_blots_by_one_pass
set_option Elab.async false
set_option linter.all false
set_option maxRecDepth 100000
set_option maxHeartbeats 4000000
/-! QA: the pure layer. Data by value, worlds, readings as functions. -/
namespace Q
open PySem PySem.Spec PyProof.Rows L2
abbrev Sl := List (Option V)

/-! ### data -/
inductive D where
  | non | bl (b : Bool) | int (i : Int) | str (x : Str)
  | tup (xs : List D) | lst (xs : List D)
  /-- a list that is locked (the script), read and never written -/
  | frz (xs : List D)
  /-- a mutable list of the store -/
  | loc (n : Nat)
  /-- a built-in class -/
  | ty (n : String)
abbrev Mu := List (List D)
inductive EV where
  | un | val (d : D) | own (ds : List D)
abbrev En := List EV
/-- an exception: the class's number, its fields -/
structure Exn where
  cls : Nat
  fs : List (Str × D)
inductive Res (α : Type) where
  | ok (a : α) (μ : Mu) | exc (e : Exn) (μ : Mu) | bad
def Res.bind {α β : Type} (r : Res α) (f : α → Mu → Res β) : Res β :=
  match r with
  | .ok a μ => f a μ
  | .exc e μ => .exc e μ
  | .bad => .bad
/-- an expression's value: data, or the list that slot i owns -/
inductive RV where
  | val (d : D) | own (i : Nat)
abbrev FE := En → Mu → Res RV
abbrev FA := En → Mu → Res (List D)
abbrev FT := En → Mu → Res Bool

/-! ### data in a heap of what never changes -/
mutual
inductive Dat (K : PySem.W.Frag) (G : Hp) (L : List Addr) : V → D → Prop
  | non : Dat K G L .non .non
  | bl (b : Bool) : Dat K G L (.bl b) (.bl b)
  | int (i : Int) : Dat K G L (.int i) (.int i)
  | str (x : Str) : Dat K G L (.str x) (.str x)
  | ty (n : String) : Dat K G L (.ty n) (.ty n)
  | tup {a : Addr} {vs : List V} {ds : List D} : SqT K G a vs → Dats K G L vs ds → Dat K G L (.ref a) (.tup ds)
  | lst {a : Addr} {vs : List V} {ds : List D} : G a = some (.lst vs) → Dats K G L vs ds → Dat K G L (.ref a) (.lst ds)
  | frz {a : Addr} {vs : List V} {ds : List D} : SqL K G a vs → Dats K G L vs ds → Dat K G L (.ref a) (.frz ds)
  | loc {a : Addr} {n : Nat} : L[n]? = some a → Dat K G L (.ref a) (.loc n)
inductive Dats (K : PySem.W.Frag) (G : Hp) (L : List Addr) : List V → List D → Prop
  | nil : Dats K G L [] []
  | cons {v : V} {d : D} {vs : List V} {ds : List D} : Dat K G L v d → Dats K G L vs ds → Dats K G L (v :: vs) (d :: ds)
end
def Sub (G H : Hp) : Prop := ∀ b o, G b = some o → H b = some o
theorem Sub.refl {G : Hp} : Sub G G := fun _ _ h => h
theorem Sub.trans {G H I : Hp} (a : Sub G H) (b : Sub H I) : Sub G I := fun x o h => b x o (a x o h)
theorem Sub.rd {G H : Hp} (s : Sub G H) {a : Addr} {u : HO} (h : Rd G a u) : Rd H a u := by
  rcases h with h | ⟨o, h⟩
  · exact .inl (s _ _ h)
  · exact .inr ⟨o, s _ _ h⟩
theorem Sub.sqT {K : PySem.W.Frag} {G H : Hp} (s : Sub G H) {a : Addr} {xs : List V} (h : SqT K G a xs) : SqT K H a xs := h.imp s.rd id
theorem Sub.sqL {K : PySem.W.Frag} {G H : Hp} (s : Sub G H) {a : Addr} {xs : List V} (h : SqL K G a xs) : SqL K H a xs := h.imp s.rd id
section
variable {K : PySem.W.Frag} {G H : Hp} {L L' : List Addr}
mutual
theorem Dat.mono (s : Sub G H) (l : ∀ (n : Nat) (a : Addr), L[n]? = some a → L'[n]? = some a) : ∀ {v : V} {d : D}, Dat K G L v d → Dat K H L' v d
  | _, _, .non => .non
  | _, _, .bl b => .bl b
  | _, _, .int i => .int i
  | _, _, .str x => .str x
  | _, _, .ty n => .ty n
  | _, _, .tup h t => .tup (s.sqT h) (Dats.mono s l t)
  | _, _, .lst h t => .lst (s _ _ h) (Dats.mono s l t)
  | _, _, .frz h t => .frz (s.sqL h) (Dats.mono s l t)
  | _, _, .loc h => .loc (l _ _ h)
theorem Dats.mono (s : Sub G H) (l : ∀ (n : Nat) (a : Addr), L[n]? = some a → L'[n]? = some a) : ∀ {vs : List V} {ds : List D}, Dats K G L vs ds → Dats K H L' vs ds
  | _, _, .nil => .nil
  | _, _, .cons h t => .cons (Dat.mono s l h) (Dats.mono s l t)
end
theorem Dat.up (s : Sub G H) {v : V} {d : D} (h : Dat K G L v d) : Dat K H L v d := h.mono s fun _ _ e => e
theorem Dats.up (s : Sub G H) {vs : List V} {ds : List D} (h : Dats K G L vs ds) : Dats K H L vs ds := h.mono s fun _ _ e => e
theorem Dats.length : ∀ {vs : List V} {ds : List D}, Dats K G L vs ds → vs.length = ds.length
  | _, _, .nil => rfl
  | _, _, .cons _ t => congrArg (· + 1) (Dats.length t)
theorem Dats.append : ∀ {vs ws : List V} {ds es : List D}, Dats K G L vs ds → Dats K G L ws es → Dats K G L (vs ++ ws) (ds ++ es)
  | _, _, _, _, .nil, t => t
  | _, _, _, _, .cons h r, t => .cons h (Dats.append r t)
theorem Dats.get : ∀ {vs : List V} {ds : List D} {i : Nat} {d : D}, Dats K G L vs ds → ds[i]? = some d → ∃ v, vs[i]? = some v ∧ Dat K G L v d
  | _, _, _, _, .nil, e => by simp at e
  | _, _, 0, _, .cons h _, e => by simp at e; subst e; exact ⟨_, rfl, h⟩
  | _, _, i + 1, d, .cons _ t, e => by
    obtain ⟨v, h1, h2⟩ := Dats.get (i := i) (d := d) t (by simpa using e)
    exact ⟨v, by simpa using h1, h2⟩
theorem Dats.getV : ∀ {vs : List V} {ds : List D} {i : Nat} {v : V}, Dats K G L vs ds → vs[i]? = some v → ∃ d, ds[i]? = some d ∧ Dat K G L v d
  | _, _, _, _, .nil, e => by simp at e
  | _, _, 0, _, .cons h _, e => by simp at e; subst e; exact ⟨_, rfl, h⟩
  | _, _, i + 1, v, .cons _ t, e => by
    obtain ⟨d, h1, h2⟩ := Dats.getV (i := i) (v := v) t (by simpa using e)
    exact ⟨d, by simpa using h1, h2⟩
theorem Dats.take : ∀ (n : Nat) {vs : List V} {ds : List D}, Dats K G L vs ds → Dats K G L (vs.take n) (ds.take n)
  | 0, _, _, _ => .nil
  | _ + 1, _, _, .nil => .nil
  | n + 1, _, _, .cons h t => .cons h (Dats.take n t)
theorem Dats.drop : ∀ (n : Nat) {vs : List V} {ds : List D}, Dats K G L vs ds → Dats K G L (vs.drop n) (ds.drop n)
  | 0, _, _, h => h
  | _ + 1, _, _, .nil => .nil
  | n + 1, _, _, .cons _ t => Dats.drop n t
theorem Dats.set {v : V} {d : D} (h : Dat K G L v d) : ∀ (n : Nat) {vs : List V} {ds : List D}, Dats K G L vs ds → Dats K G L (vs.set n v) (ds.set n d)
  | _, _, _, .nil => .nil
  | 0, _, _, .cons _ t => .cons h t
  | n + 1, _, _, .cons q t => .cons q (Dats.set h n t)
theorem Dats.eraseIdx : ∀ (n : Nat) {vs : List V} {ds : List D}, Dats K G L vs ds → Dats K G L (vs.eraseIdx n) (ds.eraseIdx n)
  | _, _, _, .nil => .nil
  | 0, _, _, .cons _ t => t
  | n + 1, _, _, .cons q t => .cons q (Dats.eraseIdx n t)
theorem Dats.reverse {vs : List V} {ds : List D} (h : Dats K G L vs ds) : Dats K G L vs.reverse ds.reverse := by
  induction vs generalizing ds with
  | nil => cases h; exact .nil
  | cons v vs ih =>
    cases h with
    | cons h t =>
      rw [List.reverse_cons, List.reverse_cons]
      exact (ih t).append (.cons h .nil)
theorem Dats.rep {vs : List V} {ds : List D} (h : Dats K G L vs ds) : ∀ k : Nat, Dats K G L (List.replicate k vs).flatten (List.replicate k ds).flatten
  | 0 => .nil
  | k + 1 => h.append (Dats.rep h k)
end
theorem sub_upd {H : Hp} {p : Addr} {o : HO} (h : H p = none) : Sub H (upd H p o) := fun b x e => by
  rw [upd_ne (ne_of_none e h)]
  exact e

/-! ### a frame's context -/
/-- the written part, the store's addresses, the heaps at the entry, where the error classes stand -/
structure Fx where
  K : PySem.W.Frag
  L : List Addr
  H0 : Hp
  G0 : Hp
  C : Nat → Addr
/-- what holds of the heaps in a def's body, whatever its slots -/
structure RRel (c : Fx) (H G : Hp) (μ : Mu) : Prop where
  sub : Sub G H
  nd : c.L.Nodup
  len : c.L.length = μ.length
  loc : ∀ (n : Nat) (a : Addr) (ds : List D), c.L[n]? = some a → μ[n]? = some ds → G a = none ∧ ∃ vs, H a = some (.lst vs) ∧ Dats c.K G c.L vs ds
  keep : ∀ b o, c.H0 b = some o → b ∉ c.L → H b = some o
  gg : Sub c.G0 G
  newG : ∀ b o, G b = some o → c.G0 b = some o ∨ (c.H0 b = none ∧ b ∉ c.L)
structure FRel (c : Fx) (σ : Sl) (H G : Hp) (env : En) (μ : Mu) : Prop extends RRel c H G μ where
  val : ∀ (i : Nat) (d : D), env[i]? = some (.val d) → ∃ v, σ[i]? = some (some v) ∧ Dat c.K G c.L v d
  own : ∀ (i : Nat) (ds : List D), env[i]? = some (.own ds) → ∃ a vs, σ[i]? = some (some (.ref a)) ∧ H a = some (.lst vs) ∧ G a = none ∧ a ∉ c.L ∧ c.H0 a = none ∧ Dats c.K G c.L vs ds
  inj : ∀ (i j : Nat) (ds es : List D) (a : Addr), env[i]? = some (.own ds) → env[j]? = some (.own es) → σ[i]? = some (some (.ref a)) → σ[j]? = some (some (.ref a)) → i = j
  el : env.length = σ.length
/-- from one state to a later one: what stood stands, but the store -/
structure Ext (L : List Addr) (H G H' G' : Hp) : Prop where
  keep : ∀ b o, H b = some o → b ∉ L → H' b = some o
  gg : Sub G G'
  newG : ∀ b o, G' b = some o → G b = some o ∨ (H b = none ∧ b ∉ L)
theorem Ext.refl {L : List Addr} {H G : Hp} : Ext L H G H G := ⟨fun _ _ h _ => h, Sub.refl, fun _ _ h => .inl h⟩
theorem Ext.trans {L : List Addr} {H G H1 G1 H2 G2 : Hp} (a : Ext L H G H1 G1) (b : Ext L H1 G1 H2 G2) : Ext L H G H2 G2 :=
  ⟨fun x o h n => b.keep x o (a.keep x o h n) n, a.gg.trans b.gg, fun x o h => by
    rcases b.newG x o h with q | ⟨q, n⟩
    · exact a.newG x o q
    · refine .inr ⟨?_, n⟩
      cases e : H x with
      | none => rfl
      | some u => rw [a.keep x u e n] at q; cases q⟩

section
variable {c : Fx} {σ : Sl} {H G H' G' : Hp} {env : En} {μ : Mu}
theorem RRel.lk (R : RRel c H G μ) {a : Addr} (h : a ∈ c.L) : ∃ vs, H a = some (.lst vs) := by
  obtain ⟨n, hn, e⟩ := List.mem_iff_getElem.mp h
  have h1 : c.L[n]? = some a := by rw [List.getElem?_eq_getElem hn, e]
  have h2 : n < μ.length := by rw [← R.len]; exact hn
  obtain ⟨_, vs, q, _⟩ := R.loc n a μ[n] h1 (List.getElem?_eq_getElem h2)
  exact ⟨vs, q⟩
theorem RRel.lG (R : RRel c H G μ) {a : Addr} (h : a ∈ c.L) : G a = none := by
  obtain ⟨n, hn, e⟩ := List.mem_iff_getElem.mp h
  have h1 : c.L[n]? = some a := by rw [List.getElem?_eq_getElem hn, e]
  have h2 : n < μ.length := by rw [← R.len]; exact hn
  exact (R.loc n a μ[n] h1 (List.getElem?_eq_getElem h2)).1
theorem RRel.fresh (R : RRel c H G μ) {a : Addr} (h : H a = none) : c.H0 a = none ∧ a ∉ c.L ∧ G a = none := by
  have hl : a ∉ c.L := fun m => by
    obtain ⟨vs, q⟩ := R.lk m
    rw [h] at q; cases q
  refine ⟨?_, hl, ?_⟩
  · cases e : c.H0 a with
    | none => rfl
    | some u => rw [R.keep a u e hl] at h; cases h
  · cases e : G a with
    | none => rfl
    | some u => rw [R.sub a u e] at h; cases h
theorem RRel.grow (R : RRel c H G μ) (hh : Sub H H') (gg : Sub G G') (sub : Sub G' H') (new : ∀ b o, G' b = some o → G b = some o ∨ H b = none) : RRel c H' G' μ ∧ Ext c.L H G H' G' := by
  have gn : ∀ b o, G' b = some o → G b = some o ∨ (H b = none ∧ b ∉ c.L) := fun b o e => (new b o e).imp id fun q => ⟨q, (R.fresh q).2.1⟩
  refine ⟨⟨sub, R.nd, R.len, fun n a ds h1 h2 => ?_, fun b o e n => hh b o (R.keep b o e n), R.gg.trans gg, fun b o e => ?_⟩, ⟨fun b o e _ => hh b o e, gg, gn⟩⟩
  · obtain ⟨g, vs, q, d⟩ := R.loc n a ds h1 h2
    refine ⟨?_, vs, hh _ _ q, d.up gg⟩
    cases e : G' a with
    | none => rfl
    | some u =>
      rcases new a u e with z | z
      · rw [g] at z; cases z
      · rw [q] at z; cases z
  · rcases new b o e with z | z
    · exact R.newG b o z
    · have f := R.fresh z
      exact .inr ⟨f.1, f.2.1⟩
theorem FRel.grow (R : FRel c σ H G env μ) (hh : Sub H H') (gg : Sub G G') (sub : Sub G' H') (new : ∀ b o, G' b = some o → G b = some o ∨ H b = none) : FRel c σ H' G' env μ ∧ Ext c.L H G H' G' := by
  obtain ⟨r, x⟩ := R.toRRel.grow hh gg sub new
  refine ⟨⟨r, fun i d e => ?_, fun i ds e => ?_, R.inj, R.el⟩, x⟩
  · obtain ⟨v, h, q⟩ := R.val i d e
    exact ⟨v, h, q.up gg⟩
  · obtain ⟨a, vs, h1, h2, h3, h4, h5, h6⟩ := R.own i ds e
    refine ⟨a, vs, h1, hh _ _ h2, ?_, h4, h5, h6.up gg⟩
    cases e : G' a with
    | none => rfl
    | some u =>
      rcases new a u e with z | z
      · rw [h3] at z; cases z
      · rw [h2] at z; cases z
/-- a new thing that never changes -/
theorem FRel.newG' (R : FRel c σ H G env μ) {p : Addr} {o : HO} (hp : H p = none) : FRel c σ (upd H p o) (upd G p o) env μ ∧ Ext c.L H G (upd H p o) (upd G p o) := by
  have hg := (R.fresh hp).2.2
  refine R.grow (sub_upd hp) (sub_upd hg) (fun b u e => ?_) fun b u e => ?_
  · by_cases h : b = p
    · subst h; rw [upd_same] at e ⊢; exact e
    · rw [upd_ne h] at e ⊢; exact R.sub b u e
  · by_cases h : b = p
    · subst h; exact .inr hp
    · rw [upd_ne h] at e; exact .inl e
/-- a new thing of this frame's own -/
theorem FRel.newH (R : FRel c σ H G env μ) {p : Addr} {o : HO} (hp : H p = none) : FRel c σ (upd H p o) G env μ ∧ Ext c.L H G (upd H p o) G :=
  R.grow (sub_upd hp) Sub.refl (R.sub.trans (sub_upd hp)) fun _ _ e => .inl e

/-- a new list becomes one that never changes -/
theorem FRel.freeze (R : FRel c σ H G env μ) {a : Addr} {vs : List V} (h1 : H a = some (.lst vs)) (h2 : G a = none) (h3 : a ∉ c.L) (h4 : c.H0 a = none) (ho : ∀ (i : Nat) (ds : List D), env[i]? = some (.own ds) → σ[i]? ≠ some (some (.ref a))) : FRel c σ H (upd G a (.lst vs)) env μ := by
  have g : Sub G (upd G a (.lst vs)) := sub_upd h2
  refine ⟨⟨fun b o e => ?_, R.nd, R.len, fun n b ds e1 e2 => ?_, R.keep, R.gg.trans g, fun b o e => ?_⟩, fun i d e => ?_, fun i ds e => ?_, R.inj, R.el⟩
  · by_cases h : b = a
    · subst h; rw [upd_same] at e; rw [h1]; exact e
    · rw [upd_ne h] at e; exact R.sub b o e
  · obtain ⟨q1, ws, q2, q3⟩ := R.loc n b ds e1 e2
    have hb : b ≠ a := fun z => h3 (z ▸ List.mem_of_getElem? e1)
    exact ⟨by rw [upd_ne hb]; exact q1, ws, q2, q3.up g⟩
  · by_cases h : b = a
    · subst h; exact .inr ⟨h4, h3⟩
    · rw [upd_ne h] at e; exact R.newG b o e
  · obtain ⟨v, q1, q2⟩ := R.val i d e
    exact ⟨v, q1, q2.up g⟩
  · obtain ⟨b, ws, q1, q2, q3, q4, q5, q6⟩ := R.own i ds e
    have hb : b ≠ a := fun z => ho i ds e (z ▸ q1)
    exact ⟨b, ws, q1, q2, by rw [upd_ne hb]; exact q3, q4, q5, q6.up g⟩

/-! ### readings -/
def DatX (c : Fx) (G : Hp) (σ : Sl) (v : V) : RV → Prop
  | .val d => Dat c.K G c.L v d
  | .own i => σ[i]? = some (some v)
theorem DatX.up (s : Sub G G') {v : V} {d : RV} (h : DatX c G σ v d) : DatX c G' σ v d := by
  cases d with
  | val d => exact Dat.up s h
  | own i => exact h
/-- an exception's class and its own dict -/
def XDat (c : Fx) (H G : Hp) (cls : Value) (d : Option Addr) (x : Exn) : Prop :=
  cls = .ref (c.C x.cls) ∧ ∃ fs : List (Str × V), fs.map (·.1) = x.fs.map (·.1) ∧ Dats c.K G c.L (fs.map (·.2)) (x.fs.map (·.2)) ∧ ((d = none ∧ x.fs = []) ∨ ∃ dd, d = some dd ∧ H dd = some (.xd fs))
/-- what is wanted of a result r, from the state at H, G -/
def tG {α β : Type} (c : Fx) (W : WX) (σ : Sl) (H G : Hp) (env : En) (R : Hp → Hp → β → α → Prop) (r : Res α) (Q : β → Hp → Prop) : Prop :=
  match r with
  | .ok a μ => ∀ v H' G', Ext c.L H G H' G' → FRel c σ H' G' env μ → R H' G' v a → Q v H'
  | .exc x μ => ∀ cls d H' G', Ext c.L H G H' G' → FRel c σ H' G' env μ → XDat c H' G' cls d x → W cls d σ H'
  | .bad => False
variable {W : WX} {α β γ δ : Type} {R : Hp → Hp → β → α → Prop} {R' : Hp → Hp → δ → γ → Prop}
theorem tG.imp {R₁ : Hp → Hp → β → α → Prop} {r : Res α} {Q Q' : β → Hp → Prop} (h : tG c W σ H G env R r Q) (hr : ∀ H' G' v a, R₁ H' G' v a → R H' G' v a) (hq : ∀ v H', Q v H' → Q' v H') : tG c W σ H G env R₁ r Q' := by
  cases r with
  | ok a μ => exact fun v H' G' x f d => hq _ _ (h v H' G' x f (hr _ _ _ _ d))
  | exc e μ => exact h
  | bad => exact h
theorem tG.shift {H1 G1 : Hp} {r : Res α} {Q : β → Hp → Prop} (x : Ext c.L H G H1 G1) (h : tG c W σ H G env R r Q) : tG c W σ H1 G1 env R r Q := by
  cases r with
  | ok a μ => exact fun v H' G' y f d => h v H' G' (x.trans y) f d
  | exc e μ => exact fun cls d H' G' y f q => h cls d H' G' (x.trans y) f q
  | bad => exact h
theorem tG.bind {r : Res α} {g : α → Mu → Res γ} {Q : δ → Hp → Prop} (h : tG c W σ H G env R' (r.bind g) Q) :
    tG c W σ H G env (fun H1 G1 v a => R H1 G1 v a) r (fun (v : β) H1 => ∃ G1 μ1 a, Ext c.L H G H1 G1 ∧ FRel c σ H1 G1 env μ1 ∧ R H1 G1 v a ∧ tG c W σ H1 G1 env R' (g a μ1) Q) := by
  cases r with
  | ok a μ => exact fun v H' G' x f d => ⟨G', μ, a, x, f, d, tG.shift x h⟩
  | exc e μ => exact h
  | bad => exact h
/-- the result is at hand -/
theorem tG.now {v : β} {a : α} {μ' : Mu} {Q : β → Hp → Prop} (h : tG c W σ H G env R (.ok a μ') Q) {H' G' : Hp} (x : Ext c.L H G H' G') (f : FRel c σ H' G' env μ') (r : R H' G' v a) : Q v H' := h v H' G' x f r
end
def RX (c : Fx) (σ : Sl) : Hp → Hp → V → RV → Prop := fun _ G v d => DatX c G σ v d
def RXs (c : Fx) : Hp → Hp → List V → List D → Prop := fun _ G v d => Dats c.K G c.L v d
def RB : Hp → Hp → Bool → Bool → Prop := fun _ _ v d => v = d
/-- a new list, nobody else's -/
def RF (c : Fx) (H : Hp) : Hp → Hp → V → RV → Prop := fun H' G' v d => ∃ a vs ds, v = .ref a ∧ d = .val (.lst ds) ∧ H' a = some (.lst vs) ∧ G' a = none ∧ a ∉ c.L ∧ H a = none ∧ Dats c.K G' c.L vs ds
/-- an expression's, an argument list's, a test's reading by a function; one that gives a new list -/
def tE (c : Fx) (W : WX) (f : FE) : TE := fun σ H Q => ∃ G env μ, FRel c σ H G env μ ∧ tG c W σ H G env (RX c σ) (f env μ) Q
def tA (c : Fx) (W : WX) (f : FA) : TA := fun σ H Q => ∃ G env μ, FRel c σ H G env μ ∧ tG c W σ H G env (RXs c) (f env μ) Q
def tT (c : Fx) (W : WX) (f : FT) : TT := fun σ H Q => ∃ G env μ, FRel c σ H G env μ ∧ tG c W σ H G env RB (f env μ) Q
def tN (c : Fx) (W : WX) (f : FE) : TE := fun σ H Q => ∃ G env μ, FRel c σ H G env μ ∧ tG c W σ H G env (RF c H) (f env μ) Q
abbrev DE (X : Cx) (c : Fx) (W : WX) (e : Expr) (f : FE) : Prop := PE X e (tE c W f)
abbrev DA (X : Cx) (c : Fx) (W : WX) (es : List Expr) (f : FA) : Prop := PA X es (tA c W f)
abbrev DT (X : Cx) (c : Fx) (W : WX) (e : Expr) (f : FT) : Prop := PT X e (tT c W f)
abbrev DN (X : Cx) (c : Fx) (W : WX) (e : Expr) (f : FE) : Prop := PE X e (tN c W f)
theorem PE.of {X : Cx} {e : Expr} {t t' : TE} (h : PE X e t) (i : ∀ σ H Q, t' σ H Q → t σ H Q) : PE X e t' := ⟨fun pins s σ H Q I q => h.run pins s σ H Q I (i σ H Q q)⟩
theorem PT.of {X : Cx} {e : Expr} {t t' : TT} (h : PT X e t) (i : ∀ σ H Q, t' σ H Q → t σ H Q) : PT X e t' := ⟨fun pins s σ H Q I q => h.run pins s σ H Q I (i σ H Q q)⟩
theorem PW.of {X : Cx} {e : Expr} {t t' : TT} (h : PW X e t) (i : ∀ σ H Q, t' σ H Q → t σ H Q) : PW X e t' := ⟨fun w pins s σ H Q I q => h.run w pins s σ H Q I (i σ H Q q)⟩
theorem PA.of {X : Cx} {e : List Expr} {t t' : TA} (h : PA X e t) (i : ∀ σ H Q, t' σ H Q → t σ H Q) : PA X e t' := ⟨fun po pins s σ H Q I q => h.run po pins s σ H Q I (i σ H Q q)⟩
theorem PS.of {X : Cx} {e : Stmt} {t t' : TS} (h : PS X e t) (i : ∀ D σ H, t' D σ H → t D σ H) : PS X e t' := ⟨fun pins s σ H D I q => h.run pins s σ H D I (i D σ H q)⟩
theorem PSs.of {X : Cx} {e : List Stmt} {t t' : TS} (h : PSs X e t) (i : ∀ D σ H, t' D σ H → t D σ H) : PSs X e t' := ⟨fun pins s σ H D I q => h.run pins s σ H D I (i D σ H q)⟩
theorem RF.base {c : Fx} {H G H1 G1 H' G' : Hp} (x : Ext c.L H G H1 G1) {v : V} {d : RV} (h : RF c H1 H' G' v d) : RF c H H' G' v d := by
  obtain ⟨a, vs, ds, e1, e2, h1, h2, h3, h4, h5⟩ := h
  refine ⟨a, vs, ds, e1, e2, h1, h2, h3, ?_, h5⟩
  cases e : H a with
  | none => rfl
  | some u => rw [x.keep a u e h3] at h4; cases h4
theorem FRel.freezeF {c : Fx} {σ : Sl} {H G H' G' : Hp} {env : En} {μ μ' : Mu} {a : Addr} {vs : List V} (R : FRel c σ H G env μ) (F : FRel c σ H' G' env μ') (h1 : H' a = some (.lst vs)) (h2 : G' a = none) (h3 : a ∉ c.L) (h4 : H a = none) : FRel c σ H' (upd G' a (.lst vs)) env μ' := by
  refine F.freeze h1 h2 h3 (R.toRRel.fresh h4).1 fun i es e z => ?_
  obtain ⟨b, ws, q1, q2, _⟩ := R.own i es e
  rw [q1] at z
  have z' : b = a := by injection z with z; injection z with z; injection z
  rw [z', h4] at q2; cases q2
/-- a new list is frozen -/
theorem tN.frz {c : Fx} {W : WX} {f : FE} {σ : Sl} {H : Hp} {Q : VK} (h : tE c W f σ H Q) : tN c W f σ H Q := by
  obtain ⟨G, env, μ, R, h⟩ := h
  refine ⟨G, env, μ, R, ?_⟩
  cases e : f env μ with
  | ok d μ' =>
    rw [e] at h
    intro v H' G' x F ⟨a, vs, ds, ev, ed, h1, h2, h3, h4, h5⟩
    subst ev ed
    have g : Sub G' (upd G' a (.lst vs)) := sub_upd h2
    refine h _ H' (upd G' a (.lst vs)) ⟨x.keep, x.gg.trans g, fun b o e => ?_⟩ (R.freezeF F h1 h2 h3 h4) (Dat.lst upd_same (h5.up g))
    by_cases hb : b = a
    · subst hb; exact .inr ⟨h4, h3⟩
    · rw [upd_ne hb] at e; exact x.newG b o e
  | exc z μ' => rw [e] at h; exact h
  | bad => rw [e] at h; exact h
theorem DN.de {X : Cx} {c : Fx} {W : WX} {e : Expr} {f : FE} (h : DN X c W e f) : DE X c W e f := PE.of h fun _ _ _ q => tN.frz q

/-! ### sequences -/
inductive SqD where
  | tup (ds : List D) | lst (ds : List D)
def SqD.items : SqD → List D
  | .tup ds => ds
  | .lst ds => ds
def sq (env : En) (μ : Mu) : RV → Option SqD
  | .val (.tup ds) => some (.tup ds)
  | .val (.lst ds) => some (.lst ds)
  | .val (.frz ds) => some (.lst ds)
  | .val (.loc n) => (μ[n]?).map SqD.lst
  | .own i => match env[i]? with | some (.own ds) => some (.lst ds) | _ => none
  | _ => none
/-- a list that may be joined to another: not a locked one -/
def sqM (env : En) (μ : Mu) : RV → Option (List D)
  | .val (.lst ds) => some ds
  | .val (.loc n) => μ[n]?
  | .own i => match env[i]? with | some (.own ds) => some ds | _ => none
  | _ => none
section
variable {c : Fx} {σ : Sl} {H G : Hp} {env : En} {μ : Mu} {x : V} {dx : RV} {ds : List D}
theorem sqM_at (R : FRel c σ H G env μ) (d : DatX c G σ x dx) (e : sqM env μ dx = some ds) : ∃ a vs, x = .ref a ∧ H a = some (.lst vs) ∧ Dats c.K G c.L vs ds := by
  unfold sqM at e
  split at e
  · cases e
    cases d with
    | lst h t => exact ⟨_, _, rfl, R.sub _ _ h, t⟩
  · rename_i n
    cases d with
    | loc h =>
      obtain ⟨_, vs, h1, h2⟩ := R.loc n _ ds h e
      exact ⟨_, vs, rfl, h1, h2⟩
  · rename_i i
    split at e
    · rename_i es ee
      cases e
      obtain ⟨a, vs, h1, h2, _, _, _, h3⟩ := R.own i ds ee
      have d' : σ[i]? = some (some x) := d
      rw [h1] at d'
      injection d' with d'
      injection d' with d'
      exact ⟨a, vs, d'.symm, h2, h3⟩
    · cases e
  · cases e
theorem sq_lst (R : FRel c σ H G env μ) (d : DatX c G σ x dx) (e : sq env μ dx = some (.lst ds)) : ∃ a vs, x = .ref a ∧ SqL c.K H a vs ∧ Dats c.K G c.L vs ds := by
  have go : sqM env μ dx = some ds → ∃ a vs, x = .ref a ∧ SqL c.K H a vs ∧ Dats c.K G c.L vs ds := fun q => by
    obtain ⟨a, vs, h1, h2, h3⟩ := sqM_at R d q
    exact ⟨a, vs, h1, SqL.of h2, h3⟩
  unfold sq at e
  split at e
  · cases e
  · cases e; exact go rfl
  · cases e
    cases d with
    | frz h t => exact ⟨_, _, rfl, R.sub.sqL h, t⟩
  · rename_i n
    refine go ?_
    show μ[n]? = some ds
    cases q : μ[n]? with
    | none => rw [q] at e; cases e
    | some es => rw [q] at e; cases e; rfl
  · rename_i i
    refine go ?_
    show (match env[i]? with | some (.own ds) => some ds | _ => none) = some ds
    split at e
    · rename_i es ee
      cases e
      rfl
    · cases e
  · cases e
theorem sq_tup (d : DatX c G σ x dx) (e : sq env μ dx = some (.tup ds)) : ∃ a vs, x = .ref a ∧ SqT c.K G a vs ∧ Dats c.K G c.L vs ds := by
  unfold sq at e
  split at e
  · cases e
    cases d with
    | tup h t => exact ⟨_, _, rfl, h, t⟩
  · cases e
  · cases e
  · rename_i n
    cases q : μ[n]? with
    | none => rw [q] at e; cases e
    | some es => rw [q] at e; cases e
  · split at e <;> cases e
  · cases e
end
end Q

set_option Elab.async false
set_option linter.all false
set_option maxRecDepth 100000
set_option maxHeartbeats 4000000
/-! QB: expressions of the pure layer. -/
namespace Q
open PySem PySem.Spec PyProof.Rows L2

def LIM : Nat := 16777216
theorem LIM_eq : LIM = sizeLine := by rw [sizeLine_eq]; rfl
/-! ### names, constants -/
def fVar (i : Nat) : FE := fun env μ => match env[i]? with
  | some (.val d) => .ok (.val d) μ
  | some (.own _) => .ok (.own i) μ
  | _ => .bad
def fC (d : D) : FE := fun _ μ => .ok (.val d) μ
section
variable {X : Cx} {c : Fx} {W : WX}
theorem de_name {e : Expr} {i : Nat} (h : PE X e (tVar i)) : DE X c W e (fVar i) := PE.of h fun σ H Q q => by
  obtain ⟨G, env, μ, R, q⟩ := q
  unfold fVar at q
  split at q
  · rename_i d e
    obtain ⟨v, h1, h2⟩ := R.val i d e
    exact ⟨v, h1, q.now Ext.refl R h2⟩
  · rename_i ds e
    obtain ⟨a, vs, h1, _⟩ := R.own i ds e
    exact ⟨_, h1, q.now Ext.refl R (show DatX c G σ _ (.own i) from h1)⟩
  · exact q.elim
theorem de_v (i : Nat) {x : Str} {pos : Pos} (hN : X.N[i]? = some x := by rfl) (hv : Vis X.env.scope x := by first | exact Or.inl rfl | exact Or.inr (Or.inl rfl) | exact Or.inr (Or.inr rfl)) (hd : (x == ("__debug__" : Str)) = false := by decide) (hcd : (x == ("__classdict__" : Str)) = false := by decide) :
    DE X c W (.Name x pos) (fVar i) := de_name (pe_var hN hv hd hcd)
theorem de_c {e : Expr} {v : V} {d : D} (h : PE X e (tC v)) (hd : ∀ K G L, Dat K G L v d) : DE X c W e (fC d) := PE.of h fun σ H Q q => by
  obtain ⟨G, env, μ, R, q⟩ := q
  exact q.now Ext.refl R (show DatX c G σ v (.val d) from hd _ _ _)
theorem de_int {i j pos} : DE X c W (.Constant (.int i) j pos) (fC (.int i)) := de_c pe_int fun _ _ _ => .int i
theorem de_bl {b j pos} : DE X c W (.Constant (.bool b) j pos) (fC (.bl b)) := de_c pe_bl fun _ _ _ => .bl b
theorem de_non {j pos} : DE X c W (.Constant .none j pos) (fC .non) := de_c pe_non fun _ _ _ => .non
theorem de_str {x j pos} : DE X c W (.Constant (.str x) j pos) (fC (.str x)) := de_c pe_str fun _ _ _ => .str x

/-! ### arguments -/
def fNil : FA := fun _ μ => .ok [] μ
def fCons (fa : FE) (fr : FA) : FA := fun env μ => (fa env μ).bind fun x μ => match x with
  | .val d => (fr env μ).bind fun ds μ => .ok (d :: ds) μ
  | _ => .bad
theorem da_nil : DA X c W [] fNil := PA.of pa_nil fun σ H Q q => by
  obtain ⟨G, env, μ, R, q⟩ := q
  exact q.now Ext.refl R Dats.nil
theorem da_cons {e : Expr} {es : List Expr} {fa : FE} {fr : FA} (ha : DE X c W e fa) (hr : DA X c W es fr) (hs : starEach (e :: es) X.env = (false, eval e X.env) :: starEach es X.env := by rfl) : DA X c W (e :: es) (fCons fa fr) := PA.of (pa_cons ha hr hs) fun σ H Q q => by
  obtain ⟨G, env, μ, R, q⟩ := q
  refine ⟨G, env, μ, R, (tG.bind q).imp (fun _ _ _ _ h => h) ?_⟩
  rintro x H1 ⟨G1, μ1, dx, x1, R1, d1, h1⟩
  cases dx with
  | own i => exact h1.elim
  | val d =>
    refine ⟨G1, env, μ1, R1, (tG.bind h1).imp (fun _ _ _ _ h => h) ?_⟩
    rintro xs H2 ⟨G2, μ2, ds, x2, R2, d2, h2⟩
    exact h2.now Ext.refl R2 (Dats.cons (Dat.up x2.gg d1) d2)

/-! ### displays -/
def fTup (fa : FA) : FE := fun env μ => (fa env μ).bind fun ds μ => if ds.length ≤ LIM then .ok (.val (.tup ds)) μ else .bad
def fLst (fa : FA) : FE := fun env μ => (fa env μ).bind fun ds μ => if ds.length ≤ LIM then .ok (.val (.lst ds)) μ else .bad
theorem newTup {σ : Sl} {H G : Hp} {env : En} {μ : Mu} {vs : List V} {ds : List D} {Q : VK} (R : FRel c σ H G env μ) (d : Dats c.K G c.L vs ds) (q : tG c W σ H G env (RX c σ) (.ok (.val (.tup ds)) μ) Q) : ∀ p, H p = none → Q (.ref p) (upd H p (.tup vs)) := fun p hp => by
  obtain ⟨R', x⟩ := R.newG' (o := .tup vs) hp
  exact q.now x R' (Dat.tup (SqT.of upd_same) (d.up x.gg))
theorem newLst {σ : Sl} {H0 H G : Hp} {env : En} {μ : Mu} {vs : List V} {ds : List D} {Q : VK} (R : FRel c σ H G env μ) (d : Dats c.K G c.L vs ds) (q : tG c W σ H G env (RF c H) (.ok (.val (.lst ds)) μ) Q) : ∀ p, H p = none → Q (.ref p) (upd H p (.lst vs)) := fun p hp => by
  obtain ⟨R', x⟩ := R.newH (o := .lst vs) hp
  have f := R.toRRel.fresh hp
  exact q.now x R' ⟨p, vs, ds, rfl, rfl, upd_same, f.2.2, f.2.1, hp, d⟩
theorem de_tup {es : List Expr} {fa : FA} {k pos} (h : DA X c W es fa) : DE X c W (.Tuple es k pos) (fTup fa) := PE.of (pe_tup h) fun σ H Q q => by
  obtain ⟨G, env, μ, R, q⟩ := q
  refine ⟨G, env, μ, R, (tG.bind q).imp (fun _ _ _ _ h => h) ?_⟩
  rintro xs H1 ⟨G1, μ1, ds, x1, R1, d1, h1⟩
  by_cases hl : ds.length ≤ LIM
  · rw [if_pos hl] at h1
    exact ⟨by rw [Dats.length d1, ← LIM_eq]; exact hl, newTup R1 d1 h1⟩
  · rw [if_neg hl] at h1; exact h1.elim
theorem dn_lst {es : List Expr} {fa : FA} {pos} (h : DA X c W es fa) : DN X c W (.List es pos) (fLst fa) := PE.of (pe_lst h) fun σ H Q q => by
  obtain ⟨G, env, μ, R, q⟩ := q
  refine ⟨G, env, μ, R, (tG.bind q).imp (fun _ _ _ _ h => h) ?_⟩
  rintro xs H1 ⟨G1, μ1, ds, x1, R1, d1, h1⟩
  by_cases hl : ds.length ≤ LIM
  · rw [if_pos hl] at h1
    exact ⟨by rw [Dats.length d1, ← LIM_eq]; exact hl, newLst (H0 := H) R1 d1 (h1.imp (fun _ _ _ _ z => z.base x1) fun _ _ z => z)⟩
  · rw [if_neg hl] at h1; exact h1.elim

/-! ### operators by values -/
abbrev G2 := En → RV → RV → Mu → Res RV
def OpG (c : Fx) (W : WX) (r : R2) (g : G2) : Prop := ∀ σ H G env μ x y dx dy Q, FRel c σ H G env μ → DatX c G σ x dx → DatX c G σ y dy → tG c W σ H G env (RX c σ) (g env dx dy μ) Q → r x y H Q
def OpN (c : Fx) (W : WX) (r : R2) (g : G2) : Prop := ∀ σ H G env μ x y dx dy Q, FRel c σ H G env μ → DatX c G σ x dx → DatX c G σ y dy → tG c W σ H G env (RF c H) (g env dx dy μ) Q → r x y H Q
def fB (g : G2) (fa fb : FE) : FE := fun env μ => (fa env μ).bind fun x μ => (fb env μ).bind fun y μ => g env x y μ
theorem tOp_of {r : R2} {g : G2} {fa fb : FE} (hg : OpG c W r g) {σ : Sl} {H : Hp} {Q : VK} (q : tE c W (fB g fa fb) σ H Q) : tOp r (tE c W fa) (tE c W fb) σ H Q := by
  obtain ⟨G, env, μ, R, q⟩ := q
  refine ⟨G, env, μ, R, (tG.bind q).imp (fun _ _ _ _ h => h) ?_⟩
  rintro x H1 ⟨G1, μ1, dx, x1, R1, d1, h1⟩
  refine ⟨G1, env, μ1, R1, (tG.bind h1).imp (fun _ _ _ _ h => h) ?_⟩
  rintro y H2 ⟨G2, μ2, dy, x2, R2, d2, h2⟩
  exact hg _ _ _ _ _ _ _ _ _ _ R2 (d1.up x2.gg) d2 h2
theorem tOp_ofN {r : R2} {g : G2} {fa fb : FE} (hg : OpN c W r g) {σ : Sl} {H : Hp} {Q : VK} (q : tN c W (fB g fa fb) σ H Q) : tOp r (tE c W fa) (tE c W fb) σ H Q := by
  obtain ⟨G, env, μ, R, q⟩ := q
  refine ⟨G, env, μ, R, (tG.bind q).imp (fun _ _ _ _ h => h) ?_⟩
  rintro x H1 ⟨G1, μ1, dx, x1, R1, d1, h1⟩
  refine ⟨G1, env, μ1, R1, (tG.bind h1).imp (fun _ _ _ _ h => h) ?_⟩
  rintro y H2 ⟨G2, μ2, dy, x2, R2, d2, h2⟩
  exact hg _ _ _ _ _ _ _ _ _ _ R2 (d1.up x2.gg) d2 (h2.imp (fun _ _ _ _ z => z.base (x1.trans x2)) fun _ _ z => z)
theorem de_op {a b : Expr} {op : Operator} {pos : Pos} {r : R2} {g : G2} {fa fb : FE} (ho : OpR X (binaryOp op) r) (hg : OpG c W r g) (ha : DE X c W a fa) (hb : DE X c W b fb) : DE X c W (.BinOp a op b pos) (fB g fa fb) := PE.of (pe_op ho ha hb) fun _ _ _ q => tOp_of hg q
theorem dn_op {a b : Expr} {op : Operator} {pos : Pos} {r : R2} {g : G2} {fa fb : FE} (ho : OpR X (binaryOp op) r) (hg : OpN c W r g) (ha : DE X c W a fa) (hb : DE X c W b fb) : DN X c W (.BinOp a op b pos) (fB g fa fb) := PE.of (pe_op ho ha hb) fun _ _ _ q => tOp_ofN hg q
theorem de_cmp {a b : Expr} {op : CmpOp} {pos : Pos} {r : R2} {g : G2} {fa fb : FE} (ho : OpR X (compareOp op) r) (hg : OpG c W r g) (ha : DE X c W a fa) (hb : DE X c W b fb) (hm : behindInMarks op b = false) : DE X c W (.Compare a [op] [b] pos) (fB g fa fb) := PE.of (pe_cmpR ho ha hb hm) fun _ _ _ q => tOp_of hg q
theorem de_ix {a b : Expr} {pos : Pos} {r : R2} {g : G2} {fa fb : FE} (ho : IxR X r) (hg : OpG c W r g) (ha : DE X c W a fa) (hb : DE X c W b fb) (hs : PlainIx b) : DE X c W (.Subscript a b pos) (fB g fa fb) := PE.of (pe_ix ho ha hb hs) fun _ _ _ q => tOp_of hg q
theorem OpG.or {r r' : R2} {g g' : G2} (h : OpG c W r g) (h' : OpG c W r' g') : OpG c W (fun x y H Q => r x y H Q ∨ r' x y H Q) (fun env x y μ => match g env x y μ with | .bad => g' env x y μ | z => z) := fun σ H G env μ x y dx dy Q R d1 d2 q => by
  cases e : g env dx dy μ with
  | ok a m =>
    simp only [e] at q
    exact .inl (h σ H G env μ x y dx dy Q R d1 d2 (by rw [e]; exact q))
  | exc a m =>
    simp only [e] at q
    exact .inl (h σ H G env μ x y dx dy Q R d1 d2 (by rw [e]; exact q))
  | bad =>
    simp only [e] at q
    exact .inr (h' σ H G env μ x y dx dy Q R d1 d2 q)
end
end Q

set_option Elab.async false
set_option linter.all false
set_option maxRecDepth 100000
set_option maxHeartbeats 4000000
/-! QC: operators, comparisons, tests, built-in calls of the pure layer. -/
namespace Q
open PySem PySem.Spec PyProof.Rows L2
/-! ### data as the kit's PyData -/
mutual
def D.py : D → PyData
  | .non => .none
  | .bl b => .bool b
  | .int i => .int i
  | .str x => .str x
  | .tup xs => .tuple (D.pys xs)
  | .lst xs => .list (D.pys xs)
  | .frz xs => .list (D.pys xs)
  | .loc _ => .none
  | .ty _ => .none
def D.pys : List D → List PyData
  | [] => []
  | x :: xs => D.py x :: D.pys xs
end
mutual
/-- no store's list, no class, signs that are signs -/
def D.plain : D → Bool
  | .non => true
  | .bl _ => true
  | .int _ => true
  | .str x => PyData.strOk x
  | .tup xs => D.plains xs
  | .lst xs => D.plains xs
  | .frz xs => D.plains xs
  | .loc _ => false
  | .ty _ => false
def D.plains : List D → Bool
  | [] => true
  | x :: xs => D.plain x && D.plains xs
end
mutual
def D.dep : D → Nat
  | .tup xs => D.deps xs + 1
  | .lst xs => D.deps xs + 1
  | .frz xs => D.deps xs + 1
  | _ => 0
def D.deps : List D → Nat
  | [] => 0
  | x :: xs => max (D.dep x) (D.deps xs)
end
mutual
def D.eq : D → D → Bool
  | .non, .non => true
  | .bl a, .bl b => a == b
  | .bl a, .int j => (if a then 1 else 0) == j
  | .int i, .bl b => i == (if b then 1 else 0)
  | .int i, .int j => i == j
  | .str x, .str y => x == y
  | .tup xs, .tup ys => D.eqs xs ys
  | .lst xs, .lst ys => D.eqs xs ys
  | .lst xs, .frz ys => D.eqs xs ys
  | .frz xs, .lst ys => D.eqs xs ys
  | .frz xs, .frz ys => D.eqs xs ys
  | _, _ => false
def D.eqs : List D → List D → Bool
  | [], [] => true
  | x :: xs, y :: ys => D.eq x y && D.eqs xs ys
  | _, _ => false
end
mutual
theorem D.eqv_py : ∀ (a b : D), D.plain a = true → D.plain b = true → PyData.eqv (D.py a) (D.py b) = D.eq a b
  | .non, b, _, hb => by cases b <;> first | rfl | (exact absurd hb Bool.false_ne_true) | (simp [D.py, PyData.eqv, D.eq])
  | .bl _, b, _, hb => by cases b <;> first | rfl | (exact absurd hb Bool.false_ne_true) | (simp [D.py, PyData.eqv, D.eq])
  | .int _, b, _, hb => by cases b <;> first | rfl | (exact absurd hb Bool.false_ne_true) | (simp [D.py, PyData.eqv, D.eq])
  | .str _, b, _, hb => by cases b <;> first | rfl | (exact absurd hb Bool.false_ne_true) | (simp [D.py, PyData.eqv, D.eq])
  | .tup xs, b, ha, hb => by
    cases b <;> first
      | (exact absurd hb Bool.false_ne_true)
      | (simp only [D.py, PyData.eqv, D.eq]; done)
      | (simp only [D.py, PyData.eqv, D.eq]; exact D.eqvs_py _ _ ha hb)
  | .lst xs, b, ha, hb => by
    cases b <;> first
      | (exact absurd hb Bool.false_ne_true)
      | (simp only [D.py, PyData.eqv, D.eq]; done)
      | (simp only [D.py, PyData.eqv, D.eq]; exact D.eqvs_py _ _ ha hb)
  | .frz xs, b, ha, hb => by
    cases b <;> first
      | (exact absurd hb Bool.false_ne_true)
      | (simp only [D.py, PyData.eqv, D.eq]; done)
      | (simp only [D.py, PyData.eqv, D.eq]; exact D.eqvs_py _ _ ha hb)
  | .loc _, _, ha, _ => absurd ha Bool.false_ne_true
  | .ty _, _, ha, _ => absurd ha Bool.false_ne_true
theorem D.eqvs_py : ∀ (xs ys : List D), D.plains xs = true → D.plains ys = true → PyData.eqvAll (D.pys xs) (D.pys ys) = D.eqs xs ys
  | [], [], _, _ => by simp [D.pys, PyData.eqvAll, D.eqs]
  | [], _ :: _, _, _ => by simp [D.pys, PyData.eqvAll, D.eqs]
  | _ :: _, [], _, _ => by simp [D.pys, PyData.eqvAll, D.eqs]
  | x :: xs, y :: ys, ha, hb => by
    simp only [D.plains, Bool.and_eq_true] at ha hb
    simp only [D.pys, PyData.eqvAll, D.eqs]
    rw [D.eqv_py x y ha.1 hb.1, D.eqvs_py xs ys ha.2 hb.2]
end
mutual
theorem D.lay_py : ∀ a : D, D.plain a = true → (D.py a).canLay0 = true
  | .non, _ => rfl
  | .bl _, _ => rfl
  | .int _, _ => rfl
  | .str x, h => h
  | .tup xs, h => D.lays_py xs h
  | .lst xs, h => D.lays_py xs h
  | .frz xs, h => D.lays_py xs h
  | .loc _, h => by cases h
  | .ty _, h => by cases h
theorem D.lays_py : ∀ xs : List D, D.plains xs = true → PyData.canLayAll0 (D.pys xs) = true
  | [], _ => rfl
  | x :: xs, h => by
    simp only [D.plains, Bool.and_eq_true] at h
    simp only [D.pys, PyData.canLayAll0, Bool.and_eq_true]
    exact ⟨D.lay_py x h.1, D.lays_py xs h.2⟩
end
mutual
theorem D.dep_py : ∀ a : D, (D.py a).depth ≤ D.dep a
  | .non => Nat.le_refl _
  | .bl _ => Nat.le_refl _
  | .int _ => Nat.le_refl _
  | .str x => Nat.le_refl _
  | .tup xs => Nat.succ_le_succ (D.deps_py xs)
  | .lst xs => Nat.succ_le_succ (D.deps_py xs)
  | .frz xs => Nat.succ_le_succ (D.deps_py xs)
  | .loc _ => Nat.le_refl _
  | .ty _ => Nat.le_refl _
theorem D.deps_py : ∀ xs : List D, PyData.depthAll (D.pys xs) ≤ D.deps xs
  | [] => Nat.le_refl _
  | x :: xs => by
    simp only [D.pys, PyData.depthAll, D.deps]
    have h1 := D.dep_py x
    have h2 := D.deps_py xs
    omega
end
section
variable {K : PySem.W.Frag} {G H : Hp} {L : List Addr}
mutual
theorem Dat.dp (s : Sub G H) : ∀ {v : V} {d : D}, Dat K G L v d → D.plain d = true → Dp K H v (D.py d)
  | _, _, .non, _ => .non
  | _, _, .bl b, _ => .bl b
  | _, _, .int i, _ => .int i
  | _, _, .str x, _ => .str x
  | _, _, .ty n, h => by cases h
  | _, _, .tup h t, p => .tup (s.sqT h) (Dats.dp s t p)
  | _, _, .lst h t, p => .lst (SqL.of (s _ _ h)) (Dats.dp s t p)
  | _, _, .frz h t, p => .lst (s.sqL h) (Dats.dp s t p)
  | _, _, .loc h, p => by cases p
theorem Dats.dp (s : Sub G H) : ∀ {vs : List V} {ds : List D}, Dats K G L vs ds → D.plains ds = true → DpAll K H vs (D.pys ds)
  | _, _, .nil, _ => .nil
  | _, d :: ds, .cons h t, p => by
    simp only [D.plains, Bool.and_eq_true] at p
    exact .cons (Dat.dp s h p.1) (Dats.dp s t p.2)
end
end
/-- a value as data: the store's list, a slot's list by what is in it -/
def rd (env : En) (μ : Mu) : RV → Option D
  | .val (.loc n) => (μ[n]?).map D.lst
  | .own i => match env[i]? with | some (.own ds) => some (.lst ds) | _ => none
  | .val d => some d
section
variable {c : Fx} {σ : Sl} {H G : Hp} {env : En} {μ : Mu} {x : V} {dx : RV} {d : D}
theorem rd_dp (R : FRel c σ H G env μ) (dd : DatX c G σ x dx) (e : rd env μ dx = some d) (p : D.plain d = true) : Dp c.K H x (D.py d) := by
  unfold rd at e
  split at e
  · rename_i n
    cases dd with
    | loc h =>
      cases q : μ[n]? with
      | none => rw [q] at e; cases e
      | some es =>
        rw [q] at e; cases e
        obtain ⟨_, vs, h1, h2⟩ := R.loc n _ es h q
        exact .lst (SqL.of h1) (Dats.dp R.sub h2 p)
  · rename_i i
    split at e
    · rename_i ds ee
      cases e
      obtain ⟨a, vs, h1, h2, _, _, _, h3⟩ := R.own i ds ee
      have d' : σ[i]? = some (some x) := dd
      rw [h1] at d'
      injection d' with d'
      injection d' with d'
      subst d'
      exact .lst (SqL.of h2) (Dats.dp R.sub h3 p)
    · cases e
  · cases e
    exact Dat.dp R.sub dd p
end
/-! ### the operators -/
/-- numbers, None, truths, texts -/
def D.scal : D → Bool
  | .non => true
  | .bl _ => true
  | .int _ => true
  | .str _ => true
  | _ => false
/-- numbers and truths mixed are left out -/
def D.scal2 (a b : D) : Bool := match a, b with
  | .non, .non => true
  | .bl _, .bl _ => true
  | .int _, .int _ => true
  | .str _, .str _ => true
  | _, _ => false
def gEq : G2 := fun env x y μ => match rd env μ x, rd env μ y with
  | some a, some b => if D.scal2 a b || (D.plain a && D.plain b && decide (min (D.dep a) (D.dep b) ≤ 64)) then .ok (.val (.bl (D.eq a b))) μ else .bad
  | _, _ => .bad
def gNe : G2 := fun env x y μ => match rd env μ x, rd env μ y with
  | some a, some b => if D.scal2 a b || (D.plain a && D.plain b && decide (min (D.dep a) (D.dep b) ≤ 64)) then .ok (.val (.bl (!D.eq a b))) μ else .bad
  | _, _ => .bad
def rEqM (K : PySem.W.Frag) : R2 := fun x y H Q => ∃ d e, Dp K H x d ∧ Dp K H y e ∧ d.canLay0 = true ∧ e.canLay0 = true ∧ min d.depth e.depth ≤ 64 ∧ Q (.bl (PyData.eqv d e)) H
def rNeM (K : PySem.W.Frag) : R2 := fun x y H Q => ∃ d e, Dp K H x d ∧ Dp K H y e ∧ d.canLay0 = true ∧ e.canLay0 = true ∧ min d.depth e.depth ≤ 64 ∧ Q (.bl (!PyData.eqv d e)) H
section
variable {X : Cx} {c : Fx} {W : WX}
theorem op_eqM (hu : X.A.units + 64 < cLine) : OpR X (compareOp .Eq) (rEqM X.K) := by
  intro pins s σ H x y v u Q I rx ry h
  obtain ⟨d, e, hd, he, sd, se, hm, q⟩ := h
  obtain ⟨as, r1⟩ := Dp.reads I d x v hd rx
  obtain ⟨bs, r2⟩ := Dp.reads I e y u he ry
  exact SeqAt.compareEq_reads r1 r2 sd se (by omega) ⟨.bl _, H, I, rfl, q⟩
theorem op_neM (hu : X.A.units + 64 < cLine) : OpR X (compareOp .NotEq) (rNeM X.K) := by
  intro pins s σ H x y v u Q I rx ry h
  obtain ⟨d, e, hd, he, sd, se, hm, q⟩ := h
  obtain ⟨as, r1⟩ := Dp.reads I d x v hd rx
  obtain ⟨bs, r2⟩ := Dp.reads I e y u he ry
  exact SeqAt.compareNe_reads r1 r2 sd se (by omega) ⟨.bl _, H, I, rfl, q⟩
theorem scal2_eq {K : PySem.W.Frag} {G : Hp} {L : List Addr} {a b : D} {x y : V} (h : D.scal2 a b = true) (da : Dat K G L x a) (db : Dat K G L y b) : L2.scal x y = true ∧ decide (x = y) = D.eq a b := by
  unfold D.scal2 at h
  split at h
  · cases da; cases db; exact ⟨rfl, rfl⟩
  · cases da; cases db; exact ⟨rfl, by rw [dec_bl]; simp [D.eq]⟩
  · cases da; cases db; exact ⟨rfl, by rw [dec_int]; simp [D.eq]⟩
  · cases da; cases db; exact ⟨rfl, by rw [dec_str]; simp [D.eq]⟩
  · cases h
theorem rd_scal {G : Hp} {σ : Sl} {env : En} {μ : Mu} {x : V} {dx : RV} {d e : D} (dd : DatX c G σ x dx) (h : rd env μ dx = some d) (s : D.scal2 d e = true ∨ D.scal2 e d = true) : Dat c.K G c.L x d := by
  unfold rd at h
  split at h
  · rename_i n
    cases q : μ[n]? with
    | none => rw [q] at h; cases h
    | some es => rw [q] at h; cases h; rcases s with s | s <;> (unfold D.scal2 at s; split at s <;> first | contradiction | cases s)
  · split at h
    · cases h; rcases s with s | s <;> (unfold D.scal2 at s; split at s <;> first | contradiction | cases s)
    · cases h
  · cases h; exact dd
theorem og_eq : OpG c W (fun x y H Q => rEq x y H Q ∨ rEqM c.K x y H Q) gEq := by
  intro σ H G env μ x y dx dy Q R d1 d2 q
  unfold gEq at q
  split at q
  · rename_i a b ea eb
    split at q
    · rename_i hc
      have q' := q.now Ext.refl R (show DatX c G σ _ (.val (.bl (D.eq a b))) from Dat.bl _)
      cases hs : D.scal2 a b with
      | true =>
        obtain ⟨h1, h2⟩ := scal2_eq hs (rd_scal d1 ea (.inl hs)) (rd_scal d2 eb (.inr hs))
        exact .inl ⟨h1, by rw [h2]; exact q'⟩
      | false =>
        rw [hs, Bool.false_or, Bool.and_eq_true, Bool.and_eq_true, decide_eq_true_eq] at hc
        obtain ⟨⟨pa, pb⟩, hm⟩ := hc
        refine .inr ⟨_, _, rd_dp R d1 ea pa, rd_dp R d2 eb pb, D.lay_py a pa, D.lay_py b pb, ?_, by rw [D.eqv_py a b pa pb]; exact q'⟩
        have := D.dep_py a
        have := D.dep_py b
        omega
    · exact q.elim
  · exact q.elim
theorem og_ne : OpG c W (fun x y H Q => rNe x y H Q ∨ rNeM c.K x y H Q) gNe := by
  intro σ H G env μ x y dx dy Q R d1 d2 q
  unfold gNe at q
  split at q
  · rename_i a b ea eb
    split at q
    · rename_i hc
      have q' := q.now Ext.refl R (show DatX c G σ _ (.val (.bl (!D.eq a b))) from Dat.bl _)
      cases hs : D.scal2 a b with
      | true =>
        obtain ⟨h1, h2⟩ := scal2_eq hs (rd_scal d1 ea (.inl hs)) (rd_scal d2 eb (.inr hs))
        exact .inl ⟨h1, by rw [h2]; exact q'⟩
      | false =>
        rw [hs, Bool.false_or, Bool.and_eq_true, Bool.and_eq_true, decide_eq_true_eq] at hc
        obtain ⟨⟨pa, pb⟩, hm⟩ := hc
        refine .inr ⟨_, _, rd_dp R d1 ea pa, rd_dp R d2 eb pb, D.lay_py a pa, D.lay_py b pb, ?_, by rw [D.eqv_py a b pa pb]; exact q'⟩
        have := D.dep_py a
        have := D.dep_py b
        omega
    · exact q.elim
  · exact q.elim
end
end Q

set_option Elab.async false
set_option linter.all false
set_option maxRecDepth 100000
set_option maxHeartbeats 4000000
/-! QD: operators by their kinds, tests, slices, built-in calls. -/
namespace Q
open PySem PySem.Spec PyProof.Rows L2
theorem le_line {n : Nat} (h : n ≤ LIM) : n ≤ sizeLine := by rw [← LIM_eq]; exact h
section
variable {X : Cx} {c : Fx} {W : WX}
theorem newLstG {σ : Sl} {H G : Hp} {env : En} {μ : Mu} {vs : List V} {ds : List D} {Q : VK} (R : FRel c σ H G env μ) (d : Dats c.K G c.L vs ds) (q : tG c W σ H G env (RX c σ) (.ok (.val (.lst ds)) μ) Q) : ∀ p, H p = none → Q (.ref p) (upd H p (.lst vs)) := fun p hp => by
  obtain ⟨R', x⟩ := R.newG' (o := .lst vs) hp
  exact q.now x R' (Dat.lst upd_same (d.up x.gg))
theorem newLstN {σ : Sl} {H G : Hp} {env : En} {μ : Mu} {vs : List V} {ds : List D} {Q : VK} (R : FRel c σ H G env μ) (d : Dats c.K G c.L vs ds) (q : tG c W σ H G env (RF c H) (.ok (.val (.lst ds)) μ) Q) : ∀ p, H p = none → Q (.ref p) (upd H p (.lst vs)) := newLst (H0 := H) R d q

/-! ### + -/
def gAdd : G2 := fun env x y μ => match x, y with
  | .val (.int i), .val (.int j) => .ok (.val (.int (i + j))) μ
  | .val (.str i), .val (.str j) => if i.length + j.length ≤ LIM then .ok (.val (.str (i ++ j))) μ else .bad
  | .val (.tup a), .val (.tup b) => if a.length + b.length ≤ LIM then .ok (.val (.tup (a ++ b))) μ else .bad
  | _, _ => match sqM env μ x, sqM env μ y with
    | some a, some b => if a.length + b.length ≤ LIM then .ok (.val (.lst (a ++ b))) μ else .bad
    | _, _ => .bad
def rAddA (K : PySem.W.Frag) : R2 := fun x y H Q => rI0 (fun i j => .int (i + j)) x y H Q ∨ (∃ i j, x = .str i ∧ y = .str j ∧ i.length + j.length ≤ sizeLine ∧ Q (.str (i ++ j)) H) ∨ rCatA K x y H Q ∨ rCat x y H Q
theorem op_addA : OpR X (binaryOp .Add) (rAddA X.K) := op_add.or (op_add_str.or (op_catA.or op_cat))
theorem og_add : OpG c W (rAddA c.K) gAdd := by
  intro σ H G env μ x y dx dy Q R d1 d2 q
  unfold gAdd at q
  split at q
  · cases d1; cases d2
    exact .inl ⟨_, _, rfl, rfl, q.now Ext.refl R (show DatX c G σ _ (.val (.int _)) from Dat.int _)⟩
  · cases d1; cases d2
    split at q
    · rename_i h
      exact .inr (.inl ⟨_, _, rfl, rfl, le_line h, q.now Ext.refl R (show DatX c G σ _ (.val (.str _)) from Dat.str _)⟩)
    · exact q.elim
  · split at q
    · rename_i h
      cases d1 with
      | tup s1 t1 =>
        cases d2 with
        | tup s2 t2 =>
          have l1 := t1.length
          have l2 := t2.length
          refine .inr (.inr (.inl ⟨_, _, _, _, rfl, rfl, R.sub.sqT s1, R.sub.sqT s2, by rw [l1, l2]; exact le_line h, fun e => ?_, fun _ e => ?_, fun _ _ => newTup R (t1.append t2) q⟩))
          · subst e
            cases t1
            exact q.now Ext.refl R (Dat.tup s2 t2)
          · subst e
            cases t2
            rw [List.append_nil] at q
            exact q.now Ext.refl R (Dat.tup s1 t1)
    · exact q.elim
  · split at q
    · rename_i a b e1 e2
      split at q
      · rename_i h
        obtain ⟨p1, vs, rfl, h1, t1⟩ := sqM_at R d1 e1
        obtain ⟨p2, ws, rfl, h2, t2⟩ := sqM_at R d2 e2
        exact .inr (.inr (.inr ⟨_, _, _, _, rfl, rfl, h1, h2, by rw [t1.length, t2.length]; exact le_line h, newLstG R (t1.append t2) q⟩))
      · exact q.elim
    · exact q.elim
theorem de_add {a b : Expr} {pos : Pos} {fa fb : FE} (ha : DE X c W a fa) (hb : DE X c W b fb) (hk : X.K = c.K := by rfl) : DE X c W (.BinOp a .Add b pos) (fB gAdd fa fb) := de_op (op_addA (X := X)) (hk ▸ og_add) ha hb
/-- two lists, joined to a new one -/
def gCat : G2 := fun env x y μ => match sqM env μ x, sqM env μ y with
  | some a, some b => if a.length + b.length ≤ LIM then .ok (.val (.lst (a ++ b))) μ else .bad
  | _, _ => .bad
theorem on_cat : OpN c W rCat gCat := by
  intro σ H G env μ x y dx dy Q R d1 d2 q
  unfold gCat at q
  split at q
  · rename_i a b e1 e2
    split at q
    · rename_i h
      obtain ⟨p1, vs, rfl, h1, t1⟩ := sqM_at R d1 e1
      obtain ⟨p2, ws, rfl, h2, t2⟩ := sqM_at R d2 e2
      exact ⟨_, _, _, _, rfl, rfl, h1, h2, by rw [t1.length, t2.length]; exact le_line h, newLstN R (t1.append t2) q⟩
    · exact q.elim
  · exact q.elim
theorem dn_cat {a b : Expr} {pos : Pos} {fa fb : FE} (ha : DE X c W a fa) (hb : DE X c W b fb) : DN X c W (.BinOp a .Add b pos) (fB gCat fa fb) := dn_op op_cat on_cat ha hb
/-! ### other arithmetic -/
def gI (C : Int → Int → Bool) (g : Int → Int → Int) : G2 := fun _ x y μ => match x, y with
  | .val (.int i), .val (.int j) => if C i j then .ok (.val (.int (g i j))) μ else .bad
  | _, _ => .bad
theorem og_I {C : Int → Int → Bool} {C' : Int → Int → Prop} {g : Int → Int → Int} (hC : ∀ i j, C i j = true → C' i j) : OpG c W (rI C' fun i j => .int (g i j)) (gI C g) := by
  intro σ H G env μ x y dx dy Q R d1 d2 q
  unfold gI at q
  split at q
  · cases d1; cases d2
    split at q
    · rename_i h
      exact ⟨_, _, rfl, rfl, hC _ _ h, q.now Ext.refl R (show DatX c G σ _ (.val (.int _)) from Dat.int _)⟩
    · exact q.elim
  · exact q.elim
def gI0 (g : Int → Int → Int) : G2 := fun _ x y μ => match x, y with
  | .val (.int i), .val (.int j) => .ok (.val (.int (g i j))) μ
  | _, _ => .bad
theorem og_I0 {g : Int → Int → Int} : OpG c W (rI0 fun i j => .int (g i j)) (gI0 g) := by
  intro σ H G env μ x y dx dy Q R d1 d2 q
  unfold gI0 at q
  split at q
  · cases d1; cases d2
    exact ⟨_, _, rfl, rfl, q.now Ext.refl R (show DatX c G σ _ (.val (.int _)) from Dat.int _)⟩
  · exact q.elim
def gSub : G2 := gI0 fun i j => i - j
def mulOk (i j : Int) : Bool := (decide (-(2 ^ 64) < i) && decide (i < 2 ^ 64)) || (decide (-(2 ^ 64) < j) && decide (j < 2 ^ 64))
def gMul : G2 := gI mulOk fun i j => i * j
def divOk (_ j : Int) : Bool := decide (0 < j) && decide (j < 1073741824)
def gDiv : G2 := gI divOk fun i j => i / j
def gMod : G2 := gI (fun _ j => decide (0 < j)) fun i j => i % j
def powOk (i j : Int) : Bool := decide (0 ≤ j) && decide (j ≤ 1000000) && decide (i.natAbs < 2 ^ 64)
def gPow : G2 := gI powOk fun i j => i ^ j.toNat
theorem de_sub {a b : Expr} {pos : Pos} {fa fb : FE} (ha : DE X c W a fa) (hb : DE X c W b fb) : DE X c W (.BinOp a .Sub b pos) (fB gSub fa fb) := de_op op_sub og_I0 ha hb
theorem de_mul {a b : Expr} {pos : Pos} {fa fb : FE} (ha : DE X c W a fa) (hb : DE X c W b fb) : DE X c W (.BinOp a .Mult b pos) (fB gMul fa fb) :=
  de_op op_mul (og_I fun i j h => by simp only [mulOk, Bool.or_eq_true, Bool.and_eq_true, decide_eq_true_eq] at h; exact h) ha hb
theorem de_div {a b : Expr} {pos : Pos} {fa fb : FE} (ha : DE X c W a fa) (hb : DE X c W b fb) : DE X c W (.BinOp a .FloorDiv b pos) (fB gDiv fa fb) :=
  de_op op_fdiv (og_I fun i j h => by simp only [divOk, Bool.and_eq_true, decide_eq_true_eq] at h; exact h) ha hb
theorem de_mod {a b : Expr} {pos : Pos} {fa fb : FE} (ha : DE X c W a fa) (hb : DE X c W b fb) : DE X c W (.BinOp a .Mod b pos) (fB gMod fa fb) :=
  de_op op_mod (og_I fun i j h => of_decide_eq_true h) ha hb
theorem de_pow {a b : Expr} {pos : Pos} {fa fb : FE} (ha : DE X c W a fa) (hb : DE X c W b fb) : DE X c W (.BinOp a .Pow b pos) (fB gPow fa fb) :=
  de_op op_pow (og_I fun i j h => by simp only [powOk, Bool.and_eq_true, decide_eq_true_eq] at h; exact ⟨h.1.1, h.1.2, h.2⟩) ha hb
/-- a list, repeated -/
def gRep : G2 := fun env x y μ => match sqM env μ x, y with
  | some a, .val (.int k) => if 0 ≤ k ∧ k ≤ 1000 ∧ a.length * k.toNat ≤ LIM then .ok (.val (.lst (List.replicate k.toNat a).flatten)) μ else .bad
  | _, _ => .bad
theorem on_rep : OpN c W rRep gRep := by
  intro σ H G env μ x y dx dy Q R d1 d2 q
  unfold gRep at q
  split at q
  · rename_i a k e1
    split at q
    · rename_i h
      obtain ⟨p1, vs, rfl, h1, t1⟩ := sqM_at R d1 e1
      cases d2
      exact ⟨_, _, _, rfl, rfl, h1, by omega, by omega, by rw [t1.length]; exact le_line h.2.2, newLstN R (t1.rep k.toNat) q⟩
    · exact q.elim
  · exact q.elim
theorem dn_rep {a b : Expr} {pos : Pos} {fa fb : FE} (ha : DE X c W a fa) (hb : DE X c W b fb) : DN X c W (.BinOp a .Mult b pos) (fB gRep fa fb) := dn_op op_rep on_rep ha hb
/-! ### comparisons -/
theorem de_eq {a b : Expr} {pos : Pos} {fa fb : FE} (hu : X.A.units + 64 < cLine) (ha : DE X c W a fa) (hb : DE X c W b fb) (hk : X.K = c.K := by rfl) : DE X c W (.Compare a [.Eq] [b] pos) (fB gEq fa fb) := de_cmp (op_eq.or (op_eqM hu)) (hk ▸ og_eq) ha hb (nomark _)
theorem de_ne {a b : Expr} {pos : Pos} {fa fb : FE} (hu : X.A.units + 64 < cLine) (ha : DE X c W a fa) (hb : DE X c W b fb) (hk : X.K = c.K := by rfl) : DE X c W (.Compare a [.NotEq] [b] pos) (fB gNe fa fb) := de_cmp (op_ne.or (op_neM hu)) (hk ▸ og_ne) ha hb (nomark _)
def gIB (g : Int → Int → Bool) : G2 := fun _ x y μ => match x, y with
  | .val (.int i), .val (.int j) => .ok (.val (.bl (g i j))) μ
  | _, _ => .bad
theorem og_IB {g : Int → Int → Bool} : OpG c W (rI0 fun i j => .bl (g i j)) (gIB g) := by
  intro σ H G env μ x y dx dy Q R d1 d2 q
  unfold gIB at q
  split at q
  · cases d1; cases d2
    exact ⟨_, _, rfl, rfl, q.now Ext.refl R (show DatX c G σ _ (.val (.bl _)) from Dat.bl _)⟩
  · exact q.elim
def gLt : G2 := gIB fun i j => decide (i < j)
def gLe : G2 := gIB fun i j => decide (i ≤ j)
def gGt : G2 := gIB fun i j => decide (j < i)
def gGe : G2 := gIB fun i j => decide (j ≤ i)
theorem de_lt {a b : Expr} {pos : Pos} {fa fb : FE} (ha : DE X c W a fa) (hb : DE X c W b fb) : DE X c W (.Compare a [.Lt] [b] pos) (fB gLt fa fb) := de_cmp op_lt og_IB ha hb (nomark _)
theorem de_le {a b : Expr} {pos : Pos} {fa fb : FE} (ha : DE X c W a fa) (hb : DE X c W b fb) : DE X c W (.Compare a [.LtE] [b] pos) (fB gLe fa fb) := de_cmp op_le og_IB ha hb (nomark _)
theorem de_gt {a b : Expr} {pos : Pos} {fa fb : FE} (ha : DE X c W a fa) (hb : DE X c W b fb) : DE X c W (.Compare a [.Gt] [b] pos) (fB gGt fa fb) := de_cmp op_gt og_IB ha hb (nomark _)
theorem de_ge {a b : Expr} {pos : Pos} {fa fb : FE} (ha : DE X c W a fa) (hb : DE X c W b fb) : DE X c W (.Compare a [.GtE] [b] pos) (fB gGe fa fb) := de_cmp op_ge og_IB ha hb (nomark _)
/-- a < b < c of ints -/
def fCh (g g' : Int → Int → Bool) (fa fb fc : FE) : FE := fun env μ => (fa env μ).bind fun x μ => (fb env μ).bind fun y μ => match x, y with
  | .val (.int i), .val (.int j) => if g i j then (fc env μ).bind fun z μ => match z with
      | .val (.int k) => .ok (.val (.bl (g' j k))) μ
      | _ => .bad
    else .ok (.val (.bl false)) μ
  | _, _ => .bad
theorem de_chain {a b d : Expr} {op op' : CmpOp} {pos : Pos} {g g' : Int → Int → Bool} {fa fb fc : FE} (ho : OpR X (compareOp op) (rI0 fun i j => .bl (g i j))) (ho' : OpR X (compareOp op') (rI0 fun i j => .bl (g' i j))) (ha : DE X c W a fa) (hb : DE X c W b fb) (hc : DE X c W d fc)
    (h : PE X (.Compare a [op, op'] [b, d] pos) (tChain (rI0 fun i j => .bl (g i j)) (rI0 fun i j => .bl (g' i j)) (tE c W fa) (tE c W fb) (tE c W fc))) : DE X c W (.Compare a [op, op'] [b, d] pos) (fCh g g' fa fb fc) := PE.of h fun σ H Q q => by
  obtain ⟨G, env, μ, R, q⟩ := q
  refine ⟨G, env, μ, R, (tG.bind q).imp (fun _ _ _ _ h => h) ?_⟩
  rintro x H1 ⟨G1, μ1, dx, x1, R1, d1, h1⟩
  refine ⟨G1, env, μ1, R1, (tG.bind h1).imp (fun _ _ _ _ h => h) ?_⟩
  rintro y H2 ⟨G2, μ2, dy, x2, R2, d2, h2⟩
  have d1' := d1.up x2.gg
  split at h2
  · cases d1'; cases d2
    refine ⟨_, _, rfl, rfl, _, rfl, ?_⟩
    rename_i i j
    cases e : g i j with
    | true =>
      rw [e] at h2
      refine (if_pos rfl).mpr ?_
      refine ⟨G2, env, μ2, R2, (tG.bind h2).imp (fun _ _ _ _ h => h) ?_⟩
      rintro z H3 ⟨G3, μ3, dz, x3, R3, d3, h3⟩
      split at h3
      · cases d3
        exact ⟨_, _, rfl, rfl, h3.now Ext.refl R3 (show DatX c G3 σ _ (.val (.bl _)) from Dat.bl _)⟩
      · exact h3.elim
    | false =>
      rw [e] at h2
      refine (if_neg Bool.false_ne_true).mpr ?_
      exact h2.now Ext.refl R2 (show DatX c G2 σ _ (.val (.bl _)) from Dat.bl _)
  · exact h2.elim
/-- is None, is not None -/
def RV.isN : RV → Bool
  | .val .non => true
  | _ => false
theorem isN_eq {G : Hp} {σ : Sl} {x : V} {dx : RV} {env : En} {H : Hp} {μ : Mu} (R : FRel c σ H G env μ) (hx : ∀ i, dx = .own i → ∃ ds, env[i]? = some (.own ds)) (d : DatX c G σ x dx) : decide (x = .non) = dx.isN := by
  cases dx with
  | own i =>
    obtain ⟨ds, e⟩ := hx i rfl
    obtain ⟨a, vs, h1, _⟩ := R.own i ds e
    have d' : σ[i]? = some (some x) := d
    rw [h1] at d'
    injection d' with d'
    injection d' with d'
    subst d'
    rfl
  | val d => cases d <;> rfl
def gIsN : G2 := fun env x y μ => match x, y with
  | .val d, .val .non => .ok (.val (.bl (RV.isN (.val d)))) μ
  | _, _ => .bad
def gNotN : G2 := fun env x y μ => match x, y with
  | .val d, .val .non => .ok (.val (.bl (!RV.isN (.val d)))) μ
  | _, _ => .bad
theorem de_isN {a b : Expr} {pos : Pos} {fa fb : FE} (ha : DE X c W a fa) (hb : DE X c W b fb) : DE X c W (.Compare a [.Is] [b] pos) (fB gIsN fa fb) := de_cmp op_isN (by
  intro σ H G env μ x y dx dy Q R d1 d2 q
  unfold gIsN at q
  split at q
  · cases d2
    refine ⟨rfl, ?_⟩
    rw [isN_eq R (fun i e => by cases e) d1]
    exact q.now Ext.refl R (show DatX c G σ _ (.val (.bl _)) from Dat.bl _)
  · exact q.elim) ha hb (nomark _)
theorem de_notN {a b : Expr} {pos : Pos} {fa fb : FE} (ha : DE X c W a fa) (hb : DE X c W b fb) : DE X c W (.Compare a [.IsNot] [b] pos) (fB gNotN fa fb) := de_cmp op_notN (by
  intro σ H G env μ x y dx dy Q R d1 d2 q
  unfold gNotN at q
  split at q
  · cases d2
    refine ⟨rfl, ?_⟩
    rw [isN_eq R (fun i e => by cases e) d1]
    exact q.now Ext.refl R (show DatX c G σ _ (.val (.bl _)) from Dat.bl _)
  · exact q.elim) ha hb (nomark _)
end
end Q

set_option Elab.async false
set_option linter.all false
set_option maxRecDepth 100000
set_option maxHeartbeats 4000000
/-! QE: tests, truth, conditional expressions, subscripts, slices, membership. -/
namespace Q
open PySem PySem.Spec PyProof.Rows L2
section
variable {X : Cx} {c : Fx} {W : WX}
/-! ### truth -/
def tru (env : En) (μ : Mu) : RV → Option Bool
  | .val .non => some false
  | .val (.bl b) => some b
  | .val (.int i) => some (i != 0)
  | .val (.str y) => if y.length ≤ LIM then some ((y.length : Int) != 0) else none
  | x => match sq env μ x with
    | some s => some (!s.items.isEmpty)
    | none => none
theorem empty_eq {K : PySem.W.Frag} {G : Hp} {L : List Addr} {vs : List V} {ds : List D} (h : Dats K G L vs ds) : vs.isEmpty = ds.isEmpty := by cases h <;> rfl
theorem tru_v {σ : Sl} {H G : Hp} {env : En} {μ : Mu} {x : V} {dx : RV} {b : Bool} (R : FRel c σ H G env μ) (d : DatX c G σ x dx) (e : tru env μ dx = some b) : TruV c.K x H b := by
  have seq : ∀ s, sq env μ dx = some s → b = !s.items.isEmpty → TruV c.K x H b := fun s es eb => by
    cases s with
    | tup ds =>
      obtain ⟨a, vs, rfl, h1, h2⟩ := sq_tup d es
      exact .inr (.inl ⟨vs, R.sub.sqT h1, by rw [eb, empty_eq h2]; rfl⟩)
    | lst ds =>
      obtain ⟨a, vs, rfl, h1, h2⟩ := sq_lst R d es
      exact .inl ⟨vs, h1, by rw [eb, empty_eq h2]; rfl⟩
  unfold tru at e
  split at e
  · cases d; cases e; rfl
  · cases d; cases e; rfl
  · cases d; cases e; rfl
  · cases d
    split at e
    · rename_i h
      cases e
      exact ⟨le_line h, rfl⟩
    · cases e
  · split at e
    · rename_i s es
      cases e
      exact seq s es rfl
    · cases e
def fTT (fa : FE) : FT := fun env μ => (fa env μ).bind fun x μ => match tru env μ x with | some b => .ok b μ | none => .bad
theorem dt_truth {e : Expr} {f : FE} (h : DE X c W e f) (he : ∀ whole, isTrue e X.env whole = (do let v ← whole; standAt e.pos; holding [v] (truthy v)) := by intro _; rfl) (hk : X.K = c.K := by rfl) : DT X c W e (fTT f) := PT.of (pt_truth h he) fun σ H Q q => by
  obtain ⟨G, env, μ, R, q⟩ := q
  refine ⟨G, env, μ, R, (tG.bind q).imp (fun _ _ _ _ h => h) ?_⟩
  rintro x H1 ⟨G1, μ1, dx, x1, R1, d1, h1⟩
  split at h1
  · rename_i b eb
    exact ⟨b, hk ▸ tru_v R1 d1 eb, h1.now Ext.refl R1 rfl⟩
  · exact h1.elim
/-- a comparison as a test -/
def fTB (fa : FE) : FT := fun env μ => (fa env μ).bind fun x μ => match x with | .val (.bl b) => .ok b μ | _ => .bad
theorem dt_of {e : Expr} {f : FE} {t : TE} (h : PT X e (tB t)) (i : ∀ σ H Q, tE c W f σ H Q → t σ H Q) : DT X c W e (fTB f) := PT.of h fun σ H Q q => by
  refine i σ H _ ?_
  obtain ⟨G, env, μ, R, q⟩ := q
  refine ⟨G, env, μ, R, (tG.bind q).imp (fun _ _ _ _ h => h) ?_⟩
  rintro x H1 ⟨G1, μ1, dx, x1, R1, d1, h1⟩
  split at h1
  · cases d1
    exact ⟨_, rfl, h1.now Ext.refl R1 rfl⟩
  · exact h1.elim
theorem dt_cmp {a b : Expr} {op : CmpOp} {pos : Pos} {r : R2} {g : G2} {fa fb : FE} (ho : OpR X (compareOp op) r) (hg : OpG c W r g) (ha : DE X c W a fa) (hb : DE X c W b fb) (hm : behindInMarks op b = false) : DT X c W (.Compare a [op] [b] pos) (fTB (fB g fa fb)) :=
  dt_of (t := tOp r (tE c W fa) (tE c W fb)) (pt_cmpR ho ha hb hm) fun _ _ _ q => tOp_of hg q
theorem dt_eq {a b : Expr} {pos : Pos} {fa fb : FE} (hu : X.A.units + 64 < cLine) (ha : DE X c W a fa) (hb : DE X c W b fb) (hk : X.K = c.K := by rfl) : DT X c W (.Compare a [.Eq] [b] pos) (fTB (fB gEq fa fb)) := dt_cmp (op_eq.or (op_eqM hu)) (hk ▸ og_eq) ha hb (nomark _)
theorem dt_ne {a b : Expr} {pos : Pos} {fa fb : FE} (hu : X.A.units + 64 < cLine) (ha : DE X c W a fa) (hb : DE X c W b fb) (hk : X.K = c.K := by rfl) : DT X c W (.Compare a [.NotEq] [b] pos) (fTB (fB gNe fa fb)) := dt_cmp (op_ne.or (op_neM hu)) (hk ▸ og_ne) ha hb (nomark _)
theorem dt_lt {a b : Expr} {pos : Pos} {fa fb : FE} (ha : DE X c W a fa) (hb : DE X c W b fb) : DT X c W (.Compare a [.Lt] [b] pos) (fTB (fB gLt fa fb)) := dt_cmp op_lt og_IB ha hb (nomark _)
theorem dt_le {a b : Expr} {pos : Pos} {fa fb : FE} (ha : DE X c W a fa) (hb : DE X c W b fb) : DT X c W (.Compare a [.LtE] [b] pos) (fTB (fB gLe fa fb)) := dt_cmp op_le og_IB ha hb (nomark _)
theorem dt_gt {a b : Expr} {pos : Pos} {fa fb : FE} (ha : DE X c W a fa) (hb : DE X c W b fb) : DT X c W (.Compare a [.Gt] [b] pos) (fTB (fB gGt fa fb)) := dt_cmp op_gt og_IB ha hb (nomark _)
theorem dt_ge {a b : Expr} {pos : Pos} {fa fb : FE} (ha : DE X c W a fa) (hb : DE X c W b fb) : DT X c W (.Compare a [.GtE] [b] pos) (fTB (fB gGe fa fb)) := dt_cmp op_ge og_IB ha hb (nomark _)
theorem og_isN : OpG c W (fun x y H Q => y = .non ∧ Q (.bl (decide (x = .non))) H) gIsN := by
  intro σ H G env μ x y dx dy Q R d1 d2 q
  unfold gIsN at q
  split at q
  · cases d2
    refine ⟨rfl, ?_⟩
    rw [isN_eq R (fun i e => by cases e) d1]
    exact q.now Ext.refl R (show DatX c G σ _ (.val (.bl _)) from Dat.bl _)
  · exact q.elim
theorem og_notN : OpG c W (fun x y H Q => y = .non ∧ Q (.bl (!decide (x = .non))) H) gNotN := by
  intro σ H G env μ x y dx dy Q R d1 d2 q
  unfold gNotN at q
  split at q
  · cases d2
    refine ⟨rfl, ?_⟩
    rw [isN_eq R (fun i e => by cases e) d1]
    exact q.now Ext.refl R (show DatX c G σ _ (.val (.bl _)) from Dat.bl _)
  · exact q.elim
theorem dt_isN {a b : Expr} {pos : Pos} {fa fb : FE} (ha : DE X c W a fa) (hb : DE X c W b fb) : DT X c W (.Compare a [.Is] [b] pos) (fTB (fB gIsN fa fb)) := dt_cmp op_isN og_isN ha hb (nomark _)
theorem dt_notN {a b : Expr} {pos : Pos} {fa fb : FE} (ha : DE X c W a fa) (hb : DE X c W b fb) : DT X c W (.Compare a [.IsNot] [b] pos) (fTB (fB gNotN fa fb)) := dt_cmp op_notN og_notN ha hb (nomark _)
/-! ### and, or, not as tests -/
def fAnd (fa fb : FT) : FT := fun env μ => (fa env μ).bind fun b μ => if b then fb env μ else .ok false μ
def fOr (fa fb : FT) : FT := fun env μ => (fa env μ).bind fun b μ => if b then .ok true μ else fb env μ
def fNot (fa : FT) : FT := fun env μ => (fa env μ).bind fun b μ => .ok (!b) μ
abbrev DW (X : Cx) (c : Fx) (W : WX) (e : Expr) (f : FT) : Prop := PW X e (tT c W f)
theorem dw_and1 {a : Expr} {pos : Pos} {fa : FT} (ha : DT X c W a fa) : DW X c W (.BoolOp .And [a] pos) fa := pw_and1 ha
theorem dw_or1 {a : Expr} {pos : Pos} {fa : FT} (ha : DT X c W a fa) : DW X c W (.BoolOp .Or [a] pos) fa := pw_or1 ha
theorem dw_and {a b : Expr} {rest : List Expr} {pos : Pos} {fa fb : FT} (ha : DT X c W a fa) (hb : DW X c W (.BoolOp .And (b :: rest) pos) fb) : DW X c W (.BoolOp .And (a :: b :: rest) pos) (fAnd fa fb) := PW.of (pw_and ha hb) fun σ H Q q => by
  obtain ⟨G, env, μ, R, q⟩ := q
  refine ⟨G, env, μ, R, (tG.bind q).imp (fun _ _ _ _ h => h) ?_⟩
  rintro x H1 ⟨G1, μ1, dx, x1, R1, d1, h1⟩
  cases d1
  cases x with
  | true => exact ⟨G1, env, μ1, R1, h1⟩
  | false => exact h1.now Ext.refl R1 rfl
theorem dw_or {a b : Expr} {rest : List Expr} {pos : Pos} {fa fb : FT} (ha : DT X c W a fa) (hb : DW X c W (.BoolOp .Or (b :: rest) pos) fb) : DW X c W (.BoolOp .Or (a :: b :: rest) pos) (fOr fa fb) := PW.of (pw_or ha hb) fun σ H Q q => by
  obtain ⟨G, env, μ, R, q⟩ := q
  refine ⟨G, env, μ, R, (tG.bind q).imp (fun _ _ _ _ h => h) ?_⟩
  rintro x H1 ⟨G1, μ1, dx, x1, R1, d1, h1⟩
  cases d1
  cases x with
  | true => exact h1.now Ext.refl R1 rfl
  | false => exact ⟨G1, env, μ1, R1, h1⟩
theorem dt_w {e : Expr} {f : FT} (h : DW X c W e f) : DT X c W e f := h.pt
theorem dt_not {a : Expr} {pos : Pos} {fa : FT} (ha : DT X c W a fa) : DT X c W (.UnaryOp .Not a pos) (fNot fa) := PT.of (pt_not ha) fun σ H Q q => by
  obtain ⟨G, env, μ, R, q⟩ := q
  refine ⟨G, env, μ, R, (tG.bind q).imp (fun _ _ _ _ h => h) ?_⟩
  rintro x H1 ⟨G1, μ1, dx, x1, R1, d1, h1⟩
  cases d1
  exact h1.now Ext.refl R1 rfl
/-! ### .. as values -/
def fAndV (fa fb : FE) : FE := fun env μ => (fa env μ).bind fun x μ => match tru env μ x with | some true => fb env μ | some false => .ok x μ | none => .bad
def fOrV (fa fb : FE) : FE := fun env μ => (fa env μ).bind fun x μ => match tru env μ x with | some true => .ok x μ | some false => fb env μ | none => .bad
def fNotV (fa : FE) : FE := fun env μ => (fa env μ).bind fun x μ => match tru env μ x with | some b => .ok (.val (.bl (!b))) μ | none => .bad
theorem de_one {op : BoolOp} {a : Expr} {pos : Pos} {fa : FE} (h : DE X c W a fa) : DE X c W (.BoolOp op [a] pos) fa := pe_one h
theorem de_and {a b : Expr} {rest : List Expr} {pos : Pos} {fa fb : FE} (ha : DE X c W a fa) (hb : DE X c W (.BoolOp .And (b :: rest) pos) fb) (hk : X.K = c.K := by rfl) : DE X c W (.BoolOp .And (a :: b :: rest) pos) (fAndV fa fb) := PE.of (pe_andT ha hb) fun σ H Q q => by
  obtain ⟨G, env, μ, R, q⟩ := q
  refine ⟨G, env, μ, R, (tG.bind q).imp (fun _ _ _ _ h => h) ?_⟩
  rintro x H1 ⟨G1, μ1, dx, x1, R1, d1, h1⟩
  split at h1
  · rename_i e
    exact ⟨true, hk ▸ tru_v R1 d1 e, (if_pos rfl).mpr ⟨G1, env, μ1, R1, h1⟩⟩
  · rename_i e
    exact ⟨false, hk ▸ tru_v R1 d1 e, (if_neg Bool.false_ne_true).mpr (h1.now Ext.refl R1 d1)⟩
  · exact h1.elim
theorem de_or {a b : Expr} {rest : List Expr} {pos : Pos} {fa fb : FE} (ha : DE X c W a fa) (hb : DE X c W (.BoolOp .Or (b :: rest) pos) fb) (hk : X.K = c.K := by rfl) : DE X c W (.BoolOp .Or (a :: b :: rest) pos) (fOrV fa fb) := PE.of (pe_orT ha hb) fun σ H Q q => by
  obtain ⟨G, env, μ, R, q⟩ := q
  refine ⟨G, env, μ, R, (tG.bind q).imp (fun _ _ _ _ h => h) ?_⟩
  rintro x H1 ⟨G1, μ1, dx, x1, R1, d1, h1⟩
  split at h1
  · rename_i e
    exact ⟨true, hk ▸ tru_v R1 d1 e, (if_pos rfl).mpr (h1.now Ext.refl R1 d1)⟩
  · rename_i e
    exact ⟨false, hk ▸ tru_v R1 d1 e, (if_neg Bool.false_ne_true).mpr ⟨G1, env, μ1, R1, h1⟩⟩
  · exact h1.elim
theorem de_not {a : Expr} {pos : Pos} {fa : FE} (ha : DE X c W a fa) (hk : X.K = c.K := by rfl) : DE X c W (.UnaryOp .Not a pos) (fNotV fa) := PE.of (pe_notT ha) fun σ H Q q => by
  obtain ⟨G, env, μ, R, q⟩ := q
  refine ⟨G, env, μ, R, (tG.bind q).imp (fun _ _ _ _ h => h) ?_⟩
  rintro x H1 ⟨G1, μ1, dx, x1, R1, d1, h1⟩
  split at h1
  · rename_i b e
    exact ⟨b, hk ▸ tru_v R1 d1 e, h1.now Ext.refl R1 (show DatX c G1 σ _ (.val (.bl _)) from Dat.bl _)⟩
  · exact h1.elim
def fNeg (fa : FE) : FE := fun env μ => (fa env μ).bind fun x μ => match x with | .val (.int i) => .ok (.val (.int (-i))) μ | _ => .bad
theorem de_neg {a : Expr} {pos : Pos} {fa : FE} (ha : DE X c W a fa) : DE X c W (.UnaryOp .USub a pos) (fNeg fa) := PE.of (pe_un un_neg ha) fun σ H Q q => by
  obtain ⟨G, env, μ, R, q⟩ := q
  refine ⟨G, env, μ, R, (tG.bind q).imp (fun _ _ _ _ h => h) ?_⟩
  rintro x H1 ⟨G1, μ1, dx, x1, R1, d1, h1⟩
  split at h1
  · cases d1
    exact ⟨_, rfl, h1.now Ext.refl R1 (show DatX c G1 σ _ (.val (.int _)) from Dat.int _)⟩
  · exact h1.elim
def fIf (ft : FT) (fa fb : FE) : FE := fun env μ => (ft env μ).bind fun b μ => if b then fa env μ else fb env μ
theorem de_if {t a b : Expr} {pos : Pos} {ft : FT} {fa fb : FE} (ht : DT X c W t ft) (ha : DE X c W a fa) (hb : DE X c W b fb) : DE X c W (.IfExp t a b pos) (fIf ft fa fb) := PE.of (pe_ifExp ht ha hb) fun σ H Q q => by
  obtain ⟨G, env, μ, R, q⟩ := q
  refine ⟨G, env, μ, R, (tG.bind q).imp (fun _ _ _ _ h => h) ?_⟩
  rintro x H1 ⟨G1, μ1, dx, x1, R1, d1, h1⟩
  cases d1
  cases x with
  | true => exact ⟨G1, env, μ1, R1, h1⟩
  | false => exact ⟨G1, env, μ1, R1, h1⟩
theorem dn_if {t a b : Expr} {pos : Pos} {ft : FT} {fa fb : FE} (ht : DT X c W t ft) (ha : DN X c W a fa) (hb : DN X c W b fb) : DN X c W (.IfExp t a b pos) (fIf ft fa fb) := PE.of (pe_ifExp ht ha hb) fun σ H Q q => by
  obtain ⟨G, env, μ, R, q⟩ := q
  refine ⟨G, env, μ, R, (tG.bind q).imp (fun _ _ _ _ h => h) ?_⟩
  rintro x H1 ⟨G1, μ1, dx, x1, R1, d1, h1⟩
  cases d1
  cases x with
  | true => exact ⟨G1, env, μ1, R1, h1.imp (fun _ _ _ _ z => z.base x1) fun _ _ z => z⟩
  | false => exact ⟨G1, env, μ1, R1, h1.imp (fun _ _ _ _ z => z.base x1) fun _ _ z => z⟩
/-! ### subscripts -/
def gIx : G2 := fun env x y μ => match y with
  | .val (.int i) => match x with
    | .val (.str z) => if z.length ≤ LIM then match atI z.cps.toList i with
      | some k => .ok (.val (.str ⟨#[k]⟩)) μ
      | none => .bad
      else .bad
    | _ => match sq env μ x with
      | some s => match atI s.items i with
        | some d => .ok (.val d) μ
        | none => .bad
      | none => .bad
  | _ => .bad
theorem Dats.atI {K : PySem.W.Frag} {G : Hp} {L : List Addr} {vs : List V} {ds : List D} (h : Dats K G L vs ds) {i : Int} {d : D} (e : L2.atI ds i = some d) : ∃ v, L2.atI vs i = some v ∧ Dat K G L v d := by
  unfold L2.atI at e ⊢
  rw [h.length]
  cases q : ixN ds.length i with
  | none => rw [q] at e; cases e
  | some j =>
    rw [q] at e
    obtain ⟨v, h1, h2⟩ := h.get (i := j) (d := d) e
    exact ⟨v, h1, h2⟩
theorem og_ix : OpG c W (rIx c.K) gIx := by
  intro σ H G env μ x y dx dy Q R d1 d2 q
  unfold gIx at q
  split at q
  · cases d2
    rename_i i
    split at q
    · rename_i z
      cases d1
      split at q
      · rename_i hz
        split at q
        · rename_i k e
          exact .inr (.inr ⟨z, i, k, rfl, rfl, le_line hz, e, q.now Ext.refl R (show DatX c G σ _ (.val (.str _)) from Dat.str _)⟩)
        · exact q.elim
      · exact q.elim
    · split at q
      · rename_i s es
        split at q
        · rename_i d e
          cases s with
          | tup ds =>
            obtain ⟨a, vs, rfl, h1, h2⟩ := sq_tup d1 es
            obtain ⟨v, h3, h4⟩ := h2.atI e
            exact .inr (.inl ⟨a, vs, i, v, rfl, rfl, R.sub.sqT h1, h3, q.now Ext.refl R (show DatX c G σ v (.val d) from h4)⟩)
          | lst ds =>
            obtain ⟨a, vs, rfl, h1, h2⟩ := sq_lst R d1 es
            obtain ⟨v, h3, h4⟩ := h2.atI e
            exact .inl ⟨a, vs, i, v, rfl, rfl, h1, h3, q.now Ext.refl R (show DatX c G σ v (.val d) from h4)⟩
        · exact q.elim
      · exact q.elim
  · exact q.elim
theorem de_at {a b : Expr} {pos : Pos} {fa fb : FE} (ha : DE X c W a fa) (hb : DE X c W b fb) (hs : PlainIx b := by intro _ _; rfl) (hk : X.K = c.K := by rfl) : DE X c W (.Subscript a b pos) (fB gIx fa fb) := de_ix (ix_seq (X := X)) (hk ▸ og_ix) ha hb hs
/-! ### slices -/
abbrev FO := En → Mu → Res (Option Int)
def fNoO : FO := fun _ μ => .ok none μ
def fSomeO (fa : FE) : FO := fun env μ => (fa env μ).bind fun x μ => match x with | .val (.int i) => .ok (some i) μ | _ => .bad
def RO : Hp → Hp → Option Int → Option Int → Prop := fun _ _ v d => v = d
def tO (c : Fx) (W : WX) (f : FO) : TO := fun σ H Q => ∃ G env μ, FRel c σ H G env μ ∧ tG c W σ H G env RO (f env μ) Q
theorem PO.of {X : Cx} {e : Option Expr} {t t' : TO} (h : PO X e t) (i : ∀ σ H Q, t' σ H Q → t σ H Q) : PO X e t' := ⟨fun pins s σ H Q I q => h.run pins s σ H Q I (i σ H Q q)⟩
theorem do_none : PO X none (tO c W fNoO) := PO.of po_none fun σ H Q q => by
  obtain ⟨G, env, μ, R, q⟩ := q
  exact q.now Ext.refl R rfl
theorem do_some {e : Expr} {fa : FE} (h : DE X c W e fa) : PO X (some e) (tO c W (fSomeO fa)) := PO.of (po_some h) fun σ H Q q => by
  obtain ⟨G, env, μ, R, q⟩ := q
  refine ⟨G, env, μ, R, (tG.bind q).imp (fun _ _ _ _ h => h) ?_⟩
  rintro x H1 ⟨G1, μ1, dx, x1, R1, d1, h1⟩
  split at h1
  · cases d1
    exact ⟨_, rfl, h1.now Ext.refl R1 rfl⟩
  · exact h1.elim
def cut {α : Type} (xs : List α) (lo hi : Option Int) : List α := (xs.drop (HT.sIx xs.length 0 lo)).take (HT.sIx xs.length xs.length hi - HT.sIx xs.length 0 lo)
abbrev GS := En → RV → Option Int → Option Int → Mu → Res RV
def fSl (g : GS) (fe : FE) (fl fh : FO) : FE := fun env μ => (fe env μ).bind fun x μ => (fl env μ).bind fun l μ => (fh env μ).bind fun h μ => g env x l h μ
def gSl : GS := fun env x l h μ => match sq env μ x with
  | some (.tup ds) => .ok (.val (.tup (cut ds l h))) μ
  | some (.lst ds) => .ok (.val (.lst (cut ds l h))) μ
  | none => .bad
def gSlN : GS := fun env x l h μ => match sq env μ x with
  | some (.lst ds) => .ok (.val (.lst (cut ds l h))) μ
  | _ => .bad
theorem Dats.cut {K : PySem.W.Frag} {G : Hp} {L : List Addr} {vs : List V} {ds : List D} (h : Dats K G L vs ds) (lo hi : Option Int) : Dats K G L (cutV vs lo hi) (Q.cut ds lo hi) := by
  unfold cutV Q.cut
  rw [h.length]
  exact (h.drop _).take _
theorem cut_whole {α : Type} {ds : List α} {lo hi : Option Int} (h : HT.sIx ds.length 0 lo = 0 ∧ HT.sIx ds.length ds.length hi = ds.length) : cut ds lo hi = ds := by
  unfold cut
  rw [h.1, h.2, List.drop_zero, Nat.sub_zero]
  exact List.take_length
theorem og_sl {σ : Sl} {H G : Hp} {env : En} {μ : Mu} {x : V} {dx : RV} {lo hi : Option Int} {Q : VK} (R : FRel c σ H G env μ) (d : DatX c G σ x dx) (q : tG c W σ H G env (RX c σ) (gSl env dx lo hi μ) Q) : rSlA c.K x lo hi H Q ∨ rSlL c.K x lo hi H Q := by
  unfold gSl at q
  split at q
  · rename_i ds e
    obtain ⟨a, vs, rfl, h1, h2⟩ := sq_tup d e
    refine .inl ⟨a, vs, rfl, R.sub.sqT h1, fun w => ?_, fun _ => newTup R (h2.cut lo hi) q⟩
    rw [h2.length] at w
    rw [cut_whole w] at q
    exact q.now Ext.refl R (Dat.tup h1 h2)
  · rename_i ds e
    obtain ⟨a, vs, rfl, h1, h2⟩ := sq_lst R d e
    exact .inr ⟨a, vs, rfl, h1, newLstG R (h2.cut lo hi) q⟩
  · exact q.elim
theorem de_slice {e : Expr} {lo hi : Option Expr} {p2 pos : Pos} {fe : FE} {fl fh : FO} (he : DE X c W e fe) (hl : PO X lo (tO c W fl)) (hu : PO X hi (tO c W fh)) (hk : X.K = c.K := by rfl) : DE X c W (.Subscript e (.Slice lo hi none p2) pos) (fSl gSl fe fl fh) := PE.of (pe_slice (SlR.or (sl_tupA (X := X)) sl_list) he hl hu) fun σ H Q q => by
  obtain ⟨G, env, μ, R, q⟩ := q
  refine ⟨G, env, μ, R, (tG.bind q).imp (fun _ _ _ _ h => h) ?_⟩
  rintro x H1 ⟨G1, μ1, dx, x1, R1, d1, h1⟩
  refine ⟨G1, env, μ1, R1, (tG.bind h1).imp (fun _ _ _ _ h => h) ?_⟩
  rintro l H2 ⟨G2, μ2, dl, x2, R2, d2, h2⟩
  cases d2
  refine ⟨G2, env, μ2, R2, (tG.bind h2).imp (fun _ _ _ _ h => h) ?_⟩
  rintro h H3 ⟨G3, μ3, dh, x3, R3, d3, h3⟩
  cases d3
  exact hk ▸ og_sl R3 (d1.up (x2.gg.trans x3.gg)) h3
theorem dn_slice {e : Expr} {lo hi : Option Expr} {p2 pos : Pos} {fe : FE} {fl fh : FO} (he : DE X c W e fe) (hl : PO X lo (tO c W fl)) (hu : PO X hi (tO c W fh)) (hk : X.K = c.K := by rfl) : DN X c W (.Subscript e (.Slice lo hi none p2) pos) (fSl gSlN fe fl fh) := PE.of (pe_slice (sl_list (X := X)) he hl hu) fun σ H Q q => by
  obtain ⟨G, env, μ, R, q⟩ := q
  refine ⟨G, env, μ, R, (tG.bind q).imp (fun _ _ _ _ h => h) ?_⟩
  rintro x H1 ⟨G1, μ1, dx, x1, R1, d1, h1⟩
  refine ⟨G1, env, μ1, R1, (tG.bind h1).imp (fun _ _ _ _ h => h) ?_⟩
  rintro l H2 ⟨G2, μ2, dl, x2, R2, d2, h2⟩
  cases d2
  refine ⟨G2, env, μ2, R2, (tG.bind h2).imp (fun _ _ _ _ h => h) ?_⟩
  rintro h H3 ⟨G3, μ3, dh, x3, R3, d3, h3⟩
  cases d3
  unfold gSlN at h3
  split at h3
  · rename_i ds ee
    obtain ⟨a, vs, rfl, q1, q2⟩ := sq_lst R3 (d1.up (x2.gg.trans x3.gg)) ee
    exact ⟨a, vs, rfl, hk ▸ q1, newLstN R3 (q2.cut l h) (h3.imp (fun _ _ _ _ z => z.base ((x1.trans x2).trans x3)) fun _ _ z => z)⟩
  · exact h3.elim
/-! ### in, not in -/
def inD (d : D) (ds : List D) : Bool := ds.any fun z => D.eq z d
def gIn (neg : Bool) : G2 := fun env x y μ => match rd env μ x, sq env μ y with
  | some d, some s => if D.plain d && D.plains s.items && decide (min (D.deps s.items) (D.dep d) ≤ 63) then .ok (.val (.bl (neg != inD d s.items))) μ else .bad
  | some (.str a), none => match y with
    | .val (.str z) => if a.cps.size = 1 then .ok (.val (.bl (neg != decide (a.cps.getD 0 0 ∈ z.cps.toList)))) μ else .bad
    | _ => .bad
  | _, _ => .bad
def rInM (K : PySem.W.Frag) (neg : Bool) : R2 := fun x y H Q => (∃ d ds, Dp K H x d ∧ (Dp K H y (.list ds) ∨ Dp K H y (.tuple ds)) ∧ d.canLay0 = true ∧ PyData.canLayAll0 ds = true ∧ min (PyData.depthAll ds) d.depth ≤ 63 ∧ Q (.bl (neg != ds.any fun z => PyData.eqv z d)) H) ∨
  ∃ (k : Nat) (z : Str), x = .str ⟨#[k]⟩ ∧ y = .str z ∧ Q (.bl (neg != decide (k ∈ z.cps.toList))) H
theorem op_inM (hu : X.A.units + 64 < cLine) : OpR X (compareOp .In) (rInM X.K false) := by
  intro pins s σ H x y v u Q I rx ry h
  rcases h with h | h
  · obtain ⟨d, ds, hd, he, sd, se, hm, q⟩ := h
    obtain ⟨as, r1⟩ := Dp.reads I d x v hd rx
    rw [Bool.false_bne] at q
    rcases he with he | he
    · obtain ⟨bs, r2⟩ := Dp.reads I _ y u he ry
      exact SeqAt.in_list_reads r2 r1 se sd (by omega) ⟨.bl _, H, I, rfl, q⟩
    · obtain ⟨bs, r2⟩ := Dp.reads I _ y u he ry
      exact SeqAt.in_tuple_reads r2 r1 se sd (by omega) ⟨.bl _, H, I, rfl, q⟩
  · obtain ⟨k, z, rfl, rfl, q⟩ := h
    rw [Bool.false_bne] at q
    exact op_in_sign pins s σ H _ _ v u Q I rx ry ⟨k, z, rfl, rfl, q⟩
theorem op_notInM (hu : X.A.units + 64 < cLine) : OpR X (compareOp .NotIn) (rInM X.K true) := by
  intro pins s σ H x y v u Q I rx ry h
  rcases h with h | h
  · obtain ⟨d, ds, hd, he, sd, se, hm, q⟩ := h
    obtain ⟨as, r1⟩ := Dp.reads I d x v hd rx
    rw [Bool.true_bne] at q
    rcases he with he | he
    · obtain ⟨bs, r2⟩ := Dp.reads I _ y u he ry
      exact SeqAt.notIn_list_reads r2 r1 se sd (by omega) ⟨.bl _, H, I, rfl, q⟩
    · obtain ⟨bs, r2⟩ := Dp.reads I _ y u he ry
      exact SeqAt.notIn_tuple_reads r2 r1 se sd (by omega) ⟨.bl _, H, I, rfl, q⟩
  · obtain ⟨k, z, rfl, rfl, q⟩ := h
    rw [Bool.true_bne] at q
    exact op_notIn_sign pins s σ H _ _ v u Q I rx ry ⟨k, z, rfl, rfl, q⟩
theorem inD_py (d : D) (hd : D.plain d = true) : ∀ ds : List D, D.plains ds = true → ((D.pys ds).any fun z => PyData.eqv z (D.py d)) = inD d ds
  | [], _ => rfl
  | x :: xs, h => by
    simp only [D.plains, Bool.and_eq_true] at h
    simp only [D.pys, inD, List.any_cons]
    rw [D.eqv_py x d h.1 hd]
    exact congrArg (D.eq x d || ·) (inD_py d hd xs h.2)
theorem og_in {neg : Bool} : OpG c W (rInM c.K neg) (gIn neg) := by
  intro σ H G env μ x y dx dy Q R d1 d2 q
  unfold gIn at q
  split at q
  · rename_i d s e1 e2
    split at q
    · rename_i hc
      rw [Bool.and_eq_true, Bool.and_eq_true, decide_eq_true_eq] at hc
      obtain ⟨⟨p1, p2⟩, hm⟩ := hc
      have m1 := D.dep_py d
      have m2 := D.deps_py s.items
      refine .inl ⟨D.py d, D.pys s.items, rd_dp R d1 e1 p1, ?_, D.lay_py d p1, D.lays_py _ p2, by omega, ?_⟩
      · cases s with
        | tup ds =>
          obtain ⟨a, vs, rfl, h1, h2⟩ := sq_tup d2 e2
          exact .inr (.tup (R.sub.sqT h1) (Dats.dp R.sub h2 p2))
        | lst ds =>
          obtain ⟨a, vs, rfl, h1, h2⟩ := sq_lst R d2 e2
          exact .inl (.lst h1 (Dats.dp R.sub h2 p2))
      · rw [inD_py d p1 _ p2]
        exact q.now Ext.refl R (show DatX c G σ _ (.val (.bl _)) from Dat.bl _)
    · exact q.elim
  · rename_i a e1 e2
    split at q
    · rename_i z
      split at q
      · rename_i ha
        cases d2
        have hx : x = .str a := by
          have := rd_dp R d1 e1
          unfold rd at e1
          split at e1
          · rename_i n
            cases q' : μ[n]? with
            | none => rw [q'] at e1; cases e1
            | some es => rw [q'] at e1; cases e1
          · split at e1 <;> cases e1
          · cases e1; cases d1; rfl
        obtain ⟨cps⟩ := a
        obtain ⟨l⟩ := cps
        match l, ha with
        | [k], _ =>
          refine .inr ⟨k, z, hx, rfl, ?_⟩
          exact q.now Ext.refl R (show DatX c G σ _ (.val (.bl _)) from Dat.bl _)
      · exact q.elim
    · exact q.elim
  · exact q.elim
theorem de_in {a b : Expr} {pos : Pos} {fa fb : FE} (hu : X.A.units + 64 < cLine) (ha : DE X c W a fa) (hb : DE X c W b fb) (hm : behindInMarks .In b = false := by rfl) (hk : X.K = c.K := by rfl) : DE X c W (.Compare a [.In] [b] pos) (fB (gIn false) fa fb) := de_cmp (op_inM hu) (hk ▸ og_in) ha hb hm
theorem de_notIn {a b : Expr} {pos : Pos} {fa fb : FE} (hu : X.A.units + 64 < cLine) (ha : DE X c W a fa) (hb : DE X c W b fb) (hm : behindInMarks .NotIn b = false := by rfl) (hk : X.K = c.K := by rfl) : DE X c W (.Compare a [.NotIn] [b] pos) (fB (gIn true) fa fb) := de_cmp (op_notInM hu) (hk ▸ og_in) ha hb hm
theorem dt_in {a b : Expr} {pos : Pos} {fa fb : FE} (hu : X.A.units + 64 < cLine) (ha : DE X c W a fa) (hb : DE X c W b fb) (hm : behindInMarks .In b = false := by rfl) (hk : X.K = c.K := by rfl) : DT X c W (.Compare a [.In] [b] pos) (fTB (fB (gIn false) fa fb)) := dt_cmp (op_inM hu) (hk ▸ og_in) ha hb hm
theorem dt_notIn {a b : Expr} {pos : Pos} {fa fb : FE} (hu : X.A.units + 64 < cLine) (ha : DE X c W a fa) (hb : DE X c W b fb) (hm : behindInMarks .NotIn b = false := by rfl) (hk : X.K = c.K := by rfl) : DT X c W (.Compare a [.NotIn] [b] pos) (fTB (fB (gIn true) fa fb)) := dt_cmp (op_notInM hu) (hk ▸ og_in) ha hb hm
end
end Q

set_option Elab.async false
set_option linter.all false
set_option maxRecDepth 100000
set_option maxHeartbeats 4000000
/-! QF: built-in calls of the pure layer. -/
namespace Q
open PySem PySem.Spec PyProof.Rows L2
abbrev FAr := En → Mu → Res (List RV)
inductive DatXs (c : Fx) (G : Hp) (σ : Sl) : List V → List RV → Prop
  | nil : DatXs c G σ [] []
  | cons {v : V} {d : RV} {vs : List V} {ds : List RV} : DatX c G σ v d → DatXs c G σ vs ds → DatXs c G σ (v :: vs) (d :: ds)
def RXr (c : Fx) (σ : Sl) : Hp → Hp → List V → List RV → Prop := fun _ G v d => DatXs c G σ v d
def tAr (c : Fx) (W : WX) (f : FAr) : TA := fun σ H Q => ∃ G env μ, FRel c σ H G env μ ∧ tG c W σ H G env (RXr c σ) (f env μ) Q
abbrev DAr (X : Cx) (c : Fx) (W : WX) (es : List Expr) (f : FAr) : Prop := PA X es (tAr c W f)
def fNilr : FAr := fun _ μ => .ok [] μ
def fConsr (fa : FE) (fr : FAr) : FAr := fun env μ => (fa env μ).bind fun x μ => (fr env μ).bind fun ds μ => .ok (x :: ds) μ
section
variable {X : Cx} {c : Fx} {W : WX}
theorem dr_nil : DAr X c W [] fNilr := PA.of pa_nil fun σ H Q q => by
  obtain ⟨G, env, μ, R, q⟩ := q
  exact q.now Ext.refl R DatXs.nil
theorem dr_cons {e : Expr} {es : List Expr} {fa : FE} {fr : FAr} (ha : DE X c W e fa) (hr : DAr X c W es fr) (hs : starEach (e :: es) X.env = (false, eval e X.env) :: starEach es X.env := by rfl) : DAr X c W (e :: es) (fConsr fa fr) := PA.of (pa_cons ha hr hs) fun σ H Q q => by
  obtain ⟨G, env, μ, R, q⟩ := q
  refine ⟨G, env, μ, R, (tG.bind q).imp (fun _ _ _ _ h => h) ?_⟩
  rintro x H1 ⟨G1, μ1, dx, x1, R1, d1, h1⟩
  refine ⟨G1, env, μ1, R1, (tG.bind h1).imp (fun _ _ _ _ h => h) ?_⟩
  rintro xs H2 ⟨G2, μ2, ds, x2, R2, d2, h2⟩
  exact h2.now Ext.refl R2 (DatXs.cons (d1.up x2.gg) d2)
abbrev GC := En → List RV → Mu → Res RV
def CallG (c : Fx) (W : WX) (r : List V → Hp → VK → Prop) (g : GC) : Prop := ∀ σ H G env μ vs ds Q, FRel c σ H G env μ → DatXs c G σ vs ds → tG c W σ H G env (RX c σ) (g env ds μ) Q → r vs H Q
def CallN (c : Fx) (W : WX) (r : List V → Hp → VK → Prop) (g : GC) : Prop := ∀ σ H G env μ vs ds Q, FRel c σ H G env μ → DatXs c G σ vs ds → tG c W σ H G env (RF c H) (g env ds μ) Q → r vs H Q
def fCall (g : GC) (fa : FAr) : FE := fun env μ => (fa env μ).bind fun xs μ => g env xs μ
theorem tCB_of {r : List V → Hp → VK → Prop} {g : GC} {fa : FAr} (hg : CallG c W r g) {σ : Sl} {H : Hp} {Q : VK} (q : tE c W (fCall g fa) σ H Q) : tCB r (tAr c W fa) σ H Q := by
  obtain ⟨G, env, μ, R, q⟩ := q
  refine ⟨G, env, μ, R, (tG.bind q).imp (fun _ _ _ _ h => h) ?_⟩
  rintro xs H1 ⟨G1, μ1, ds, x1, R1, d1, h1⟩
  exact hg _ _ _ _ _ _ _ _ R1 d1 h1
theorem tCB_ofN {r : List V → Hp → VK → Prop} {g : GC} {fa : FAr} (hg : CallN c W r g) {σ : Sl} {H : Hp} {Q : VK} (q : tN c W (fCall g fa) σ H Q) : tCB r (tAr c W fa) σ H Q := by
  obtain ⟨G, env, μ, R, q⟩ := q
  refine ⟨G, env, μ, R, (tG.bind q).imp (fun _ _ _ _ h => h) ?_⟩
  rintro xs H1 ⟨G1, μ1, ds, x1, R1, d1, h1⟩
  exact hg _ _ _ _ _ _ _ _ R1 d1 (h1.imp (fun _ _ _ _ z => z.base x1) fun _ _ z => z)
theorem de_blt {id : String} {x : Str} {r : List V → Hp → VK → Prop} {g : GC} {e : Expr} {es : List Expr} {fa : FAr} {p pos : Pos} (hc : CallR X (.builtin id) r) (hg : CallG c W r g) (hgl : Gl X x) (hm : X.mg x = none) (hv : bootBuiltins x = some (.builtin id)) (ha : DAr X c W (e :: es) fa)
    (hn : x ≠ "__name__" := by decide) (hdb : (x == ("__debug__" : Str)) = false := by decide) (he : starEach (e :: es) X.env = (false, eval e X.env) :: starEach es X.env := by rfl) (hpl : (backTo pos (starEach es X.env)).any (·.1) = false := by rfl) : DE X c W (.Call (.Name x p) (e :: es) [] pos) (fCall g fa) :=
  PE.of (pe_callB hc hgl hm hv ha hn hdb he hpl) fun _ _ _ q => tCB_of hg q
theorem de_bty {T : String} {x : Str} {r : List V → Hp → VK → Prop} {g : GC} {e : Expr} {es : List Expr} {fa : FAr} {p pos : Pos} (hc : CallR X (.type T) r) (hg : CallG c W r g) (hgl : Gl X x) (hm : X.mg x = none) (hv : bootBuiltins x = some (.type T)) (ha : DAr X c W (e :: es) fa)
    (hn : x ≠ "__name__" := by decide) (hdb : (x == ("__debug__" : Str)) = false := by decide) (he : starEach (e :: es) X.env = (false, eval e X.env) :: starEach es X.env := by rfl) (hpl : (backTo pos (starEach es X.env)).any (·.1) = false := by rfl) : DE X c W (.Call (.Name x p) (e :: es) [] pos) (fCall g fa) :=
  PE.of (pe_callTy hc hgl hm hv ha hn hdb he hpl) fun _ _ _ q => tCB_of hg q
theorem dn_bty {T : String} {x : Str} {r : List V → Hp → VK → Prop} {g : GC} {e : Expr} {es : List Expr} {fa : FAr} {p pos : Pos} (hc : CallR X (.type T) r) (hg : CallN c W r g) (hgl : Gl X x) (hm : X.mg x = none) (hv : bootBuiltins x = some (.type T)) (ha : DAr X c W (e :: es) fa)
    (hn : x ≠ "__name__" := by decide) (hdb : (x == ("__debug__" : Str)) = false := by decide) (he : starEach (e :: es) X.env = (false, eval e X.env) :: starEach es X.env := by rfl) (hpl : (backTo pos (starEach es X.env)).any (·.1) = false := by rfl) : DN X c W (.Call (.Name x p) (e :: es) [] pos) (fCall g fa) :=
  PE.of (pe_callTy hc hgl hm hv ha hn hdb he hpl) fun _ _ _ q => tCB_ofN hg q
theorem dn_blt {id : String} {x : Str} {r : List V → Hp → VK → Prop} {g : GC} {e : Expr} {es : List Expr} {fa : FAr} {p pos : Pos} (hc : CallR X (.builtin id) r) (hg : CallN c W r g) (hgl : Gl X x) (hm : X.mg x = none) (hv : bootBuiltins x = some (.builtin id)) (ha : DAr X c W (e :: es) fa)
    (hn : x ≠ "__name__" := by decide) (hdb : (x == ("__debug__" : Str)) = false := by decide) (he : starEach (e :: es) X.env = (false, eval e X.env) :: starEach es X.env := by rfl) (hpl : (backTo pos (starEach es X.env)).any (·.1) = false := by rfl) : DN X c W (.Call (.Name x p) (e :: es) [] pos) (fCall g fa) :=
  PE.of (pe_callB hc hgl hm hv ha hn hdb he hpl) fun _ _ _ q => tCB_ofN hg q
/-! ### len, tuple, list -/
def gLen : GC := fun env xs μ => match xs with
  | [.val (.str z)] => if z.length ≤ LIM then .ok (.val (.int z.length)) μ else .bad
  | [x] => match sq env μ x with
    | some s => .ok (.val (.int s.items.length)) μ
    | none => .bad
  | _ => .bad
def rLen (K : PySem.W.Frag) : List V → Hp → VK → Prop := fun xs H Q => (∃ p ys, xs = [.ref p] ∧ (SqL K H p ys ∨ SqT K H p ys) ∧ Q (.int ys.length) H) ∨ ∃ z, xs = [.str z] ∧ z.length ≤ sizeLine ∧ Q (.int z.length) H
theorem cr_len : CallR X (.builtin "len") (rLen X.K) := call_len_seq.or call_len_str
theorem cg_len : CallG c W (rLen c.K) gLen := by
  intro σ H G env μ vs ds Q R d q
  unfold gLen at q
  split at q
  · cases d with
    | cons d1 d2 =>
      cases d2; cases d1
      split at q
      · rename_i h
        exact .inr ⟨_, rfl, le_line h, q.now Ext.refl R (show DatX c G σ _ (.val (.int _)) from Dat.int _)⟩
      · exact q.elim
  · cases d with
    | cons d1 d2 =>
      cases d2
      split at q
      · rename_i s es
        cases s with
        | tup ds =>
          obtain ⟨a, ws, rfl, h1, h2⟩ := sq_tup d1 es
          refine .inl ⟨a, ws, rfl, .inr (R.sub.sqT h1), ?_⟩
          rw [h2.length]
          exact q.now Ext.refl R (show DatX c G σ _ (.val (.int _)) from Dat.int _)
        | lst ds =>
          obtain ⟨a, ws, rfl, h1, h2⟩ := sq_lst R d1 es
          refine .inl ⟨a, ws, rfl, .inl h1, ?_⟩
          rw [h2.length]
          exact q.now Ext.refl R (show DatX c G σ _ (.val (.int _)) from Dat.int _)
      · exact q.elim
  · exact q.elim
def gTuple : GC := fun env xs μ => match xs with
  | [x] => match sq env μ x with
    | some s => .ok (.val (.tup s.items)) μ
    | none => .bad
  | _ => .bad
theorem cg_tuple : CallG c W (fun xs H Q => ∃ p ys, xs = [.ref p] ∧ ((SqL c.K H p ys ∧ ∀ l, H l = none → Q (.ref l) (upd H l (.tup ys))) ∨ (SqT c.K H p ys ∧ Q (.ref p) H))) gTuple := by
  intro σ H G env μ vs ds Q R d q
  unfold gTuple at q
  split at q
  · cases d with
    | cons d1 d2 =>
      cases d2
      split at q
      · rename_i s es
        cases s with
        | tup ds =>
          obtain ⟨a, ws, rfl, h1, h2⟩ := sq_tup d1 es
          exact ⟨a, ws, rfl, .inr ⟨R.sub.sqT h1, q.now Ext.refl R (Dat.tup h1 h2)⟩⟩
        | lst ds =>
          obtain ⟨a, ws, rfl, h1, h2⟩ := sq_lst R d1 es
          exact ⟨a, ws, rfl, .inl ⟨h1, newTup R h2 q⟩⟩
      · exact q.elim
  · exact q.elim
def gList : GC := fun env xs μ => match xs with
  | [x] => match sq env μ x with
    | some s => .ok (.val (.lst s.items)) μ
    | none => .bad
  | _ => .bad
theorem cn_list : CallN c W (fun xs H Q => ∃ p ys, xs = [.ref p] ∧ (SqL c.K H p ys ∨ SqT c.K H p ys) ∧ ∀ l, H l = none → Q (.ref l) (upd H l (.lst ys))) gList := by
  intro σ H G env μ vs ds Q R d q
  unfold gList at q
  split at q
  · cases d with
    | cons d1 d2 =>
      cases d2
      split at q
      · rename_i s es
        cases s with
        | tup ds =>
          obtain ⟨a, ws, rfl, h1, h2⟩ := sq_tup d1 es
          exact ⟨a, ws, rfl, .inr (R.sub.sqT h1), newLstN R h2 q⟩
        | lst ds =>
          obtain ⟨a, ws, rfl, h1, h2⟩ := sq_lst R d1 es
          exact ⟨a, ws, rfl, .inl h1, newLstN R h2 q⟩
      · exact q.elim
  · exact q.elim
theorem de_len {e : Expr} {fa : FE} {p pos : Pos} (hm : X.mg "len" = none) (ha : DE X c W e fa) (hgl : Gl X "len" := by rfl) (hk : X.K = c.K := by rfl) (hs : starEach [e] X.env = (false, eval e X.env) :: starEach [] X.env := by rfl) : DE X c W (.Call (.Name "len" p) [e] [] pos) (fCall gLen (fConsr fa fNilr)) :=
  de_blt (cr_len (X := X)) (hk ▸ cg_len) hgl hm PySem.boot_len (dr_cons ha dr_nil hs) (by decide) (by decide) hs
theorem de_tuple {e : Expr} {fa : FE} {p pos : Pos} (hm : X.mg "tuple" = none) (ha : DE X c W e fa) (hgl : Gl X "tuple" := by rfl) (hk : X.K = c.K := by rfl) (hs : starEach [e] X.env = (false, eval e X.env) :: starEach [] X.env := by rfl) : DE X c W (.Call (.Name "tuple" p) [e] [] pos) (fCall gTuple (fConsr fa fNilr)) :=
  de_bty (call_tuple_of (X := X)) (hk ▸ cg_tuple) hgl hm (by decide +kernel) (dr_cons ha dr_nil hs) (by decide) (by decide) hs
theorem dn_list {e : Expr} {fa : FE} {p pos : Pos} (hm : X.mg "list" = none) (ha : DE X c W e fa) (hgl : Gl X "list" := by rfl) (hk : X.K = c.K := by rfl) (hs : starEach [e] X.env = (false, eval e X.env) :: starEach [] X.env := by rfl) : DN X c W (.Call (.Name "list" p) [e] [] pos) (fCall gList (fConsr fa fNilr)) :=
  dn_bty (call_list_of (X := X)) (hk ▸ cn_list) hgl hm (by decide +kernel) (dr_cons ha dr_nil hs) (by decide) (by decide) hs
/-! ### all, any, sum, abs, int, min, max -/
def bls : List D → Option (List Bool)
  | [] => some []
  | .bl b :: r => (bls r).map (b :: ·)
  | _ => none
def intsD : List D → Option (List Int)
  | [] => some []
  | .int b :: r => (intsD r).map (b :: ·)
  | _ => none
theorem bls_v {K : PySem.W.Frag} {G : Hp} {L : List Addr} : ∀ {ds : List D} {bs : List Bool} {vs : List V}, bls ds = some bs → Dats K G L vs ds → vs = bs.map V.bl
  | [], bs, vs, h, d => by cases h; cases d; rfl
  | x :: r, bs, vs, h, d => by
    cases x with
    | bl b =>
      simp only [bls] at h
      cases e : bls r with
      | none => rw [e] at h; cases h
      | some cs =>
        rw [e] at h; cases h
        cases d with
        | cons d1 d2 =>
          cases d1
          rw [bls_v e d2]; rfl
    | _ => cases h
theorem ints_v {K : PySem.W.Frag} {G : Hp} {L : List Addr} : ∀ {ds : List D} {bs : List Int} {vs : List V}, intsD ds = some bs → Dats K G L vs ds → vs = bs.map V.int
  | [], bs, vs, h, d => by cases h; cases d; rfl
  | x :: r, bs, vs, h, d => by
    cases x with
    | int b =>
      simp only [intsD] at h
      cases e : intsD r with
      | none => rw [e] at h; cases h
      | some cs =>
        rw [e] at h; cases h
        cases d with
        | cons d1 d2 =>
          cases d1
          rw [ints_v e d2]; rfl
    | _ => cases h
def gBls (g : List Bool → Bool) : GC := fun env xs μ => match xs with
  | [x] => match sq env μ x with
    | some (.lst ds) => match bls ds with
      | some bs => .ok (.val (.bl (g bs))) μ
      | none => .bad
    | _ => .bad
  | _ => .bad
theorem cg_bls {g : List Bool → Bool} : CallG c W (fun vs H Q => ∃ (a : Addr) (bs : List Bool), vs = [V.ref a] ∧ SqL c.K H a (bs.map V.bl) ∧ Q (.bl (g bs)) H) (gBls g) := by
  intro σ H G env μ vs ds Q R d q
  unfold gBls at q
  split at q
  · cases d with
    | cons d1 d2 =>
      cases d2
      split at q
      · rename_i ds es
        split at q
        · rename_i bs eb
          obtain ⟨a, ws, rfl, h1, h2⟩ := sq_lst R d1 es
          have := bls_v eb h2
          subst this
          exact ⟨a, bs, rfl, h1, q.now Ext.refl R (show DatX c G σ _ (.val (.bl _)) from Dat.bl _)⟩
        · exact q.elim
      · exact q.elim
  · exact q.elim
def gInts (ok : List Int → Bool) (g : List Int → Int) : GC := fun env xs μ => match xs with
  | [x] => match sq env μ x with
    | some (.lst ds) => match intsD ds with
      | some bs => if ok bs then .ok (.val (.int (g bs))) μ else .bad
      | none => .bad
    | _ => .bad
  | _ => .bad
theorem cg_ints {ok : List Int → Bool} {g : List Int → Int} {r : List V → Hp → VK → Prop} (hr : ∀ (a : Addr) (bs : List Int) (H : Hp) (Q : VK), SqL c.K H a (bs.map V.int) → ok bs = true → Q (.int (g bs)) H → r [V.ref a] H Q) : CallG c W r (gInts ok g) := by
  intro σ H G env μ vs ds Q R d q
  unfold gInts at q
  split at q
  · cases d with
    | cons d1 d2 =>
      cases d2
      split at q
      · rename_i ds es
        split at q
        · rename_i bs eb
          split at q
          · rename_i ho
            obtain ⟨a, ws, rfl, h1, h2⟩ := sq_lst R d1 es
            have := ints_v eb h2
            subst this
            exact hr a bs H Q h1 ho (q.now Ext.refl R (show DatX c G σ _ (.val (.int _)) from Dat.int _))
          · exact q.elim
        · exact q.elim
      · exact q.elim
  · exact q.elim
def gAll : GC := gBls fun bs => bs.all id
def gAny : GC := gBls fun bs => bs.any id
def gSum : GC := gInts (fun _ => true) List.sum
theorem de_all {e : Expr} {fa : FE} {p pos : Pos} (hc : X.calm = true) (hm : X.mg "all" = none) (ha : DE X c W e fa) (hgl : Gl X "all" := by rfl) (hk : X.K = c.K := by rfl) (hs : starEach [e] X.env = (false, eval e X.env) :: starEach [] X.env := by rfl) : DE X c W (.Call (.Name "all" p) [e] [] pos) (fCall gAll (fConsr fa fNilr)) :=
  de_blt (cr_all hc) (hk ▸ cg_bls) hgl hm (by decide +kernel) (dr_cons ha dr_nil hs) (by decide) (by decide) hs
theorem de_any {e : Expr} {fa : FE} {p pos : Pos} (hc : X.calm = true) (hm : X.mg "any" = none) (ha : DE X c W e fa) (hgl : Gl X "any" := by rfl) (hk : X.K = c.K := by rfl) (hs : starEach [e] X.env = (false, eval e X.env) :: starEach [] X.env := by rfl) : DE X c W (.Call (.Name "any" p) [e] [] pos) (fCall gAny (fConsr fa fNilr)) :=
  de_blt (cr_any hc) (hk ▸ cg_bls) hgl hm (by decide +kernel) (dr_cons ha dr_nil hs) (by decide) (by decide) hs
theorem de_sum {e : Expr} {fa : FE} {p pos : Pos} (hc : X.calm = true) (hm : X.mg "sum" = none) (ha : DE X c W e fa) (hgl : Gl X "sum" := by rfl) (hk : X.K = c.K := by rfl) (hs : starEach [e] X.env = (false, eval e X.env) :: starEach [] X.env := by rfl) : DE X c W (.Call (.Name "sum" p) [e] [] pos) (fCall gSum (fConsr fa fNilr)) :=
  de_blt (cr_sum hc) (hk ▸ cg_ints fun a bs H Q h _ q => ⟨a, bs, rfl, h, q⟩) hgl hm (by decide +kernel) (dr_cons ha dr_nil hs) (by decide) (by decide) hs
def gMinL : GC := gInts (fun bs => !bs.isEmpty) fun bs => bs.tail.foldl min (bs.headD 0)
def gMaxL : GC := gInts (fun bs => !bs.isEmpty) fun bs => bs.tail.foldl max (bs.headD 0)
theorem fold_min : ∀ (r : List Int) (x : Int), (r.foldl min x ∈ x :: r) ∧ ∀ y ∈ x :: r, r.foldl min x ≤ y
  | [], x => ⟨List.mem_cons_self, fun y h => by cases h with | head => exact Int.le_refl _ | tail _ h => cases h⟩
  | z :: r, x => by
    obtain ⟨h1, h2⟩ := fold_min r (min x z)
    refine ⟨?_, fun y hy => ?_⟩
    · show r.foldl min (min x z) ∈ x :: z :: r
      rcases List.mem_cons.mp h1 with e | m
      · rw [e]
        by_cases h : x ≤ z
        · rw [Int.min_eq_left h]; exact List.mem_cons_self
        · rw [Int.min_eq_right (by omega)]; exact List.mem_cons_of_mem _ List.mem_cons_self
      · exact List.mem_cons_of_mem _ (List.mem_cons_of_mem _ m)
    · show r.foldl min (min x z) ≤ y
      have h0 := h2 (min x z) List.mem_cons_self
      rcases List.mem_cons.mp hy with rfl | hy
      · omega
      · rcases List.mem_cons.mp hy with rfl | hy
        · omega
        · exact h2 y (List.mem_cons_of_mem _ hy)
theorem fold_max : ∀ (r : List Int) (x : Int), (r.foldl max x ∈ x :: r) ∧ ∀ y ∈ x :: r, y ≤ r.foldl max x
  | [], x => ⟨List.mem_cons_self, fun y h => by cases h with | head => exact Int.le_refl _ | tail _ h => cases h⟩
  | z :: r, x => by
    obtain ⟨h1, h2⟩ := fold_max r (max x z)
    refine ⟨?_, fun y hy => ?_⟩
    · show r.foldl max (max x z) ∈ x :: z :: r
      rcases List.mem_cons.mp h1 with e | m
      · rw [e]
        by_cases h : x ≤ z
        · rw [Int.max_eq_right h]; exact List.mem_cons_of_mem _ List.mem_cons_self
        · rw [Int.max_eq_left (by omega)]; exact List.mem_cons_self
      · exact List.mem_cons_of_mem _ (List.mem_cons_of_mem _ m)
    · show y ≤ r.foldl max (max x z)
      have h0 := h2 (max x z) List.mem_cons_self
      rcases List.mem_cons.mp hy with rfl | hy
      · omega
      · rcases List.mem_cons.mp hy with rfl | hy
        · omega
        · exact h2 y (List.mem_cons_of_mem _ hy)
theorem de_minL {e : Expr} {fa : FE} {p pos : Pos} (hc : X.calm = true) (hm : X.mg "min" = none) (ha : DE X c W e fa) (hgl : Gl X "min" := by rfl) (hk : X.K = c.K := by rfl) (hs : starEach [e] X.env = (false, eval e X.env) :: starEach [] X.env := by rfl) : DE X c W (.Call (.Name "min" p) [e] [] pos) (fCall gMinL (fConsr fa fNilr)) :=
  de_blt (cr_min hc) (hk ▸ cg_ints fun a bs H Q h ho q => by
    cases bs with
    | nil => cases ho
    | cons x r =>
      refine ⟨a, x :: r, rfl, h, Nat.succ_pos _, fun m h1 h2 => ?_⟩
      obtain ⟨g1, g2⟩ := fold_min r x
      have : m = r.foldl min x := Int.le_antisymm (h2 _ g1) (g2 _ h1)
      rw [this]; exact q) hgl hm (by decide +kernel) (dr_cons ha dr_nil hs) (by decide) (by decide) hs
theorem de_maxL {e : Expr} {fa : FE} {p pos : Pos} (hc : X.calm = true) (hm : X.mg "max" = none) (ha : DE X c W e fa) (hgl : Gl X "max" := by rfl) (hk : X.K = c.K := by rfl) (hs : starEach [e] X.env = (false, eval e X.env) :: starEach [] X.env := by rfl) : DE X c W (.Call (.Name "max" p) [e] [] pos) (fCall gMaxL (fConsr fa fNilr)) :=
  de_blt (cr_max hc) (hk ▸ cg_ints fun a bs H Q h ho q => by
    cases bs with
    | nil => cases ho
    | cons x r =>
      refine ⟨a, x :: r, rfl, h, Nat.succ_pos _, fun m h1 h2 => ?_⟩
      obtain ⟨g1, g2⟩ := fold_max r x
      have : m = r.foldl max x := Int.le_antisymm (g2 _ h1) (h2 _ g1)
      rw [this]; exact q) hgl hm (by decide +kernel) (dr_cons ha dr_nil hs) (by decide) (by decide) hs
def gI1 (g : Int → Int) : GC := fun _ xs μ => match xs with
  | [.val (.int i)] => .ok (.val (.int (g i))) μ
  | _ => .bad
def gI2 (g : Int → Int → Int) : GC := fun _ xs μ => match xs with
  | [.val (.int i), .val (.int j)] => .ok (.val (.int (g i j))) μ
  | _ => .bad
theorem cg_I1 {g : Int → Int} {r : List V → Hp → VK → Prop} (hr : ∀ (i : Int) (H : Hp) (Q : VK), Q (.int (g i)) H → r [V.int i] H Q) : CallG c W r (gI1 g) := by
  intro σ H G env μ vs ds Q R d q
  unfold gI1 at q
  split at q
  · cases d with
    | cons d1 d2 =>
      cases d2; cases d1
      exact hr _ _ _ (q.now Ext.refl R (show DatX c G σ _ (.val (.int _)) from Dat.int _))
  · exact q.elim
theorem cg_I2 {g : Int → Int → Int} {r : List V → Hp → VK → Prop} (hr : ∀ (i j : Int) (H : Hp) (Q : VK), Q (.int (g i j)) H → r [V.int i, V.int j] H Q) : CallG c W r (gI2 g) := by
  intro σ H G env μ vs ds Q R d q
  unfold gI2 at q
  split at q
  · cases d with
    | cons d1 d2 =>
      cases d2 with
      | cons d2 d3 =>
        cases d3; cases d1; cases d2
        exact hr _ _ _ _ (q.now Ext.refl R (show DatX c G σ _ (.val (.int _)) from Dat.int _))
  · exact q.elim
def gAbs : GC := gI1 fun i => if i < 0 then -i else i
def gMin2 : GC := gI2 fun i j => if j < i then j else i
def gMax2 : GC := gI2 fun i j => if j > i then j else i
theorem de_abs {e : Expr} {fa : FE} {p pos : Pos} (hm : X.mg "abs" = none) (ha : DE X c W e fa) (hgl : Gl X "abs" := by rfl) (hs : starEach [e] X.env = (false, eval e X.env) :: starEach [] X.env := by rfl) : DE X c W (.Call (.Name "abs" p) [e] [] pos) (fCall gAbs (fConsr fa fNilr)) :=
  de_blt call_abs (cg_I1 fun i H Q q => ⟨i, rfl, q⟩) hgl hm (by decide +kernel) (dr_cons ha dr_nil hs) (by decide) (by decide) hs
theorem de_min2 {e e2 : Expr} {fa fb : FE} {p pos : Pos} (hc : X.calm = true) (hm : X.mg "min" = none) (ha : DE X c W e fa) (hb : DE X c W e2 fb) (hgl : Gl X "min" := by rfl) (hs : starEach [e, e2] X.env = (false, eval e X.env) :: starEach [e2] X.env := by rfl) (hs2 : starEach [e2] X.env = (false, eval e2 X.env) :: starEach [] X.env := by rfl) (hpl : (backTo pos (starEach [e2] X.env)).any (·.1) = false := by rfl) : DE X c W (.Call (.Name "min" p) [e, e2] [] pos) (fCall gMin2 (fConsr fa (fConsr fb fNilr))) :=
  de_blt (call_min2 hc) (cg_I2 fun i j H Q q => ⟨i, j, rfl, q⟩) hgl hm (by decide +kernel) (dr_cons ha (dr_cons hb dr_nil hs2) hs) (by decide) (by decide) hs hpl
theorem de_max2 {e e2 : Expr} {fa fb : FE} {p pos : Pos} (hc : X.calm = true) (hm : X.mg "max" = none) (ha : DE X c W e fa) (hb : DE X c W e2 fb) (hgl : Gl X "max" := by rfl) (hs : starEach [e, e2] X.env = (false, eval e X.env) :: starEach [e2] X.env := by rfl) (hs2 : starEach [e2] X.env = (false, eval e2 X.env) :: starEach [] X.env := by rfl) (hpl : (backTo pos (starEach [e2] X.env)).any (·.1) = false := by rfl) : DE X c W (.Call (.Name "max" p) [e, e2] [] pos) (fCall gMax2 (fConsr fa (fConsr fb fNilr))) :=
  de_blt (call_max2 hc) (cg_I2 fun i j H Q q => ⟨i, j, rfl, q⟩) hgl hm (by decide +kernel) (dr_cons ha (dr_cons hb dr_nil hs2) hs) (by decide) (by decide) hs hpl
def gInt : GC := fun _ xs μ => match xs with
  | [.val (.int i)] => .ok (.val (.int i)) μ
  | [.val (.bl b)] => .ok (.val (.int (if b then 1 else 0))) μ
  | _ => .bad
theorem cg_int : CallG c W (fun xs H Q => (∃ i, xs = [.int i] ∧ Q (.int i) H) ∨ ∃ k, xs = [.bl k] ∧ Q (.int (if k then 1 else 0)) H) gInt := by
  intro σ H G env μ vs ds Q R d q
  unfold gInt at q
  split at q
  · cases d with
    | cons d1 d2 =>
      cases d2; cases d1
      exact .inl ⟨_, rfl, q.now Ext.refl R (show DatX c G σ _ (.val (.int _)) from Dat.int _)⟩
  · cases d with
    | cons d1 d2 =>
      cases d2; cases d1
      exact .inr ⟨_, rfl, q.now Ext.refl R (show DatX c G σ _ (.val (.int _)) from Dat.int _)⟩
  · exact q.elim
theorem de_int1 {e : Expr} {fa : FE} {p pos : Pos} (hm : X.mg "int" = none) (ha : DE X c W e fa) (hgl : Gl X "int" := by rfl) (hs : starEach [e] X.env = (false, eval e X.env) :: starEach [] X.env := by rfl) : DE X c W (.Call (.Name "int" p) [e] [] pos) (fCall gInt (fConsr fa fNilr)) :=
  de_bty call_int1 cg_int hgl hm (by decide +kernel) (dr_cons ha dr_nil hs) (by decide) (by decide) hs
/-! ### isinstance -/
def tyName : D → String
  | .non => "NoneType"
  | .bl _ => "bool"
  | .int _ => "int"
  | .str _ => "str"
  | .tup _ => "tuple"
  | .lst _ => "list"
  | .frz _ => "list"
  | .loc _ => "list"
  | .ty _ => "type"
def subTy (a b : String) : Bool := a == b || (a == "bool" && b == "int")
def tyGo (a b : String) : Bool := (a ∈ ["NoneType", "bool", "int", "str", "tuple", "list"]) && (b ∈ ["bool", "int", "str", "tuple", "list"])
theorem kit_all : (["NoneType", "bool", "int", "str", "tuple", "list"].all fun a => ["bool", "int", "str", "tuple", "list"].all fun b => L2.kitB a b == some (subTy a b)) = true := by decide +kernel
theorem kit_sub {a b : String} (h : tyGo a b = true) : L2.kitB a b = some (subTy a b) := by
  unfold tyGo at h
  rw [Bool.and_eq_true, decide_eq_true_eq, decide_eq_true_eq] at h
  have h1 := List.all_eq_true.mp kit_all a h.1
  have h2 := List.all_eq_true.mp h1 b h.2
  exact eq_of_beq h2
def isi (ns : List String) (x : RV) (μ : Mu) : Res RV := match x with
  | .val d => if ns.all (fun n => tyGo (tyName d) n) then .ok (.val (.bl (ns.any fun n => subTy (tyName d) n))) μ else .bad
  | .own _ => .bad
def fIsi (ns : List String) (fa : FE) : FE := fun env μ => (fa env μ).bind fun x μ => isi ns x μ
theorem kitAny_sub {K : PySem.W.Frag} {a : String} : ∀ {ns : List String}, (ns.all fun n => tyGo a n) = true → PySem.W.kitAny K (.type a) (ns.map Value.type) = some (ns.any fun n => subTy a n)
  | [], _ => kitAny_nil
  | n :: ns, h => by
    rw [List.all_cons, Bool.and_eq_true] at h
    have k := kit_sub h.1
    show PySem.W.kitAny K (.type a) (Value.type n :: ns.map Value.type) = _
    rw [List.any_cons]
    refine kitAny_cons (kit_ty k) (fun e => ?_) fun e => ?_
    · rw [e, Bool.false_or]; exact kitAny_sub h.2
    · rw [e]; rfl
theorem ty_of {σ : Sl} {H G : Hp} {env : En} {μ : Mu} {x : V} {d : D} (R : FRel c σ H G env μ) (dd : Dat c.K G c.L x d) (h : tyGo (tyName d) "list" = true) : TyX c.K H x (.type (tyName d)) := by
  cases dd with
  | non => exact .base .non
  | bl b => exact .base (.bl b)
  | int i => exact .base (.int i)
  | str x => exact .base (.str x)
  | ty n => exact absurd h (by simp [tyName, tyGo])
  | tup s t =>
    rcases s with (s | ⟨o, s⟩) | ⟨o, its, n, h1, h2, _⟩
    · exact .base (.tup (R.sub _ _ s))
    · exact .fTuple (R.sub _ _ s)
    · exact .kTuple h1 h2
  | lst s t => exact .base (.lst (R.sub _ _ s))
  | frz s t =>
    rcases s with (s | ⟨o, s⟩) | ⟨o, its, n, h1, h2, _⟩
    · exact .base (.lst (R.sub _ _ s))
    · exact .base (.frz (R.sub _ _ s))
    · exact .kList h1 h2
  | loc l =>
    obtain ⟨vs, e⟩ := R.toRRel.lk (List.mem_of_getElem? l)
    exact .base (.lst e)
theorem tyGo_list {a b : String} (h : tyGo a b = true) : tyGo a "list" = true := by
  unfold tyGo at h ⊢
  rw [Bool.and_eq_true] at h ⊢
  exact ⟨h.1, by decide⟩
/-- isinstance(e, T) -/
theorem de_isi {e : Expr} {fa : FE} {n : String} {x : Str} {p p2 pos : Pos} (hm : X.mg "isinstance" = none) (hm2 : X.mg x = none) (hv : bootBuiltins x = some (.type n)) (ha : DE X c W e fa) (hgl : Gl X "isinstance" := by rfl) (hgl2 : Gl X x := by rfl) (hk : X.K = c.K := by rfl)
    (hn : x ≠ "__name__" := by decide) (hdb : (x == ("__debug__" : Str)) = false := by decide) (hs : starEach [e, .Name x p2] X.env = (false, eval e X.env) :: starEach [.Name x p2] X.env := by rfl) (hs2 : starEach [.Name x p2] X.env = (false, eval (.Name x p2) X.env) :: starEach [] X.env := by rfl) (hpl : (backTo pos (starEach [.Name x p2] X.env)).any (·.1) = false := by rfl) :
    DE X c W (.Call (.Name "isinstance" p) [e, .Name x p2] [] pos) (fIsi [n] fa) :=
  PE.of (pe_callB (call_isi (X := X)) hgl hm (by decide +kernel) (pa_cons ha (pa_cons (pe_bltn (v := .ty n) hgl2 hm2 hv rfl hn hdb) pa_nil hs2) hs) (by decide) (by decide) hs hpl) fun σ H Q q => by
  obtain ⟨G, env, μ, R, q⟩ := q
  refine ⟨G, env, μ, R, (tG.bind q).imp (fun _ _ _ _ h => h) ?_⟩
  rintro v H1 ⟨G1, μ1, dx, x1, R1, d1, h1⟩
  cases dx with
  | own i => exact h1.elim
  | val d =>
    unfold isi at h1
    split at h1
    · rename_i d' e'
      cases e'
      split at h1
      · rename_i hc
        have hg : tyGo (tyName d) n = true := by
          rw [List.all_cons, Bool.and_eq_true] at hc; exact hc.1
        refine ⟨v, .ty n, .type (tyName d), .type n, subTy (tyName d) n, rfl, .ty n, hk ▸ ty_of R1 d1 (tyGo_list hg), kit_ty (kit_sub hg), ?_⟩
        have e : ([n].any fun n => subTy (tyName d) n) = subTy (tyName d) n := by rw [List.any_cons, List.any_nil, Bool.or_false]
        rw [e] at h1
        exact h1.now Ext.refl R1 (show DatX c G1 σ _ (.val (.bl _)) from Dat.bl _)
      · exact h1.elim
    · exact h1.elim
def tTys (ns : List String) : TA := fun _ H Q => Q (ns.map V.ty) H
theorem pa_ty0 : PA X [] (tTys []) := pa_nil
theorem pa_tyc {x : Str} {n : String} {p : Pos} {es : List Expr} {ns : List String} (hm2 : X.mg x = none) (hv : bootBuiltins x = some (.type n)) (hr : PA X es (tTys ns)) (hgl2 : Gl X x := by rfl) (hn : x ≠ "__name__" := by decide) (hdb : (x == ("__debug__" : Str)) = false := by decide) (hs : starEach (.Name x p :: es) X.env = (false, eval (.Name x p) X.env) :: starEach es X.env := by rfl) : PA X (.Name x p :: es) (tTys (n :: ns)) :=
  PA.of (pa_cons (pe_bltn (v := .ty n) hgl2 hm2 hv rfl hn hdb) hr hs) fun _ _ _ q => q
/-- isinstance(e, (T, ..)) -/
theorem pair_ty : ∀ ns : List String, Paired ClsV (ns.map V.ty) (ns.map Value.type)
  | [] => .nil
  | n :: ns => .cons (.ty n) (pair_ty ns)
theorem de_isiT {e : Expr} {fa : FE} {n : String} {ns : List String} {es : List Expr} {k : Nat} {p p2 pos : Pos} (hm : X.mg "isinstance" = none) (hts : PA X es (tTys (n :: ns))) (ha : DE X c W e fa) (hl : (n :: ns).length ≤ LIM := by decide) (hgl : Gl X "isinstance" := by rfl) (hk : X.K = c.K := by rfl)
    (hs : starEach [e, .Tuple es k p2] X.env = (false, eval e X.env) :: starEach [.Tuple es k p2] X.env := by rfl) (hs2 : starEach [.Tuple es k p2] X.env = (false, eval (.Tuple es k p2) X.env) :: starEach [] X.env := by rfl) (hpl : (backTo pos (starEach [.Tuple es k p2] X.env)).any (·.1) = false := by rfl) :
    DE X c W (.Call (.Name "isinstance" p) [e, .Tuple es k p2] [] pos) (fIsi (n :: ns) fa) :=
  PE.of (pe_callB (call_isiT (X := X)) hgl hm (by decide +kernel) (pa_cons ha (pa_cons (pe_tup hts) pa_nil hs2) hs) (by decide) (by decide) hs hpl) fun σ H Q q => by
  obtain ⟨G, env, μ, R, q⟩ := q
  refine ⟨G, env, μ, R, (tG.bind q).imp (fun _ _ _ _ h => h) ?_⟩
  rintro v H1 ⟨G1, μ1, dx, x1, R1, d1, h1⟩
  refine ⟨by rw [List.length_map]; exact le_line hl, fun tp htp => ?_⟩
  obtain ⟨R2, x2⟩ := R1.newG' (o := .tup ((n :: ns).map V.ty)) htp
  cases dx with
  | own i => exact h1.elim
  | val d =>
    unfold isi at h1
    split at h1
    · rename_i d' e'
      cases e'
      split at h1
      · rename_i hc
        have hg : tyGo (tyName d) n = true := by
          rw [List.all_cons, Bool.and_eq_true] at hc; exact hc.1
        exact ⟨v, tp, (n :: ns).map V.ty, .type (tyName d), (n :: ns).map Value.type, _, rfl, upd_same, pair_ty (n :: ns), hk ▸ ty_of R2 (d1.up x2.gg) (tyGo_list hg), kitAny_sub hc, h1.now x2 R2 (show DatX c _ σ _ (.val (.bl _)) from Dat.bl _)⟩
      · exact h1.elim
    · exact h1.elim
end
end Q

set_option Elab.async false
set_option linter.all false
set_option maxRecDepth 100000
set_option maxHeartbeats 4000000
/-! QG: statements of the pure layer. -/
namespace Q
open PySem PySem.Spec PyProof.Rows L2
inductive SRes where
  | nxt (env : En) (μ : Mu)
  | ret (d : EV) (μ : Mu)
  | brk (env : En) (μ : Mu)
  | cnt (env : En) (μ : Mu)
  | exc (e : Exn) (env : En) (μ : Mu)
  | bad
abbrev FS := En → Mu → SRes
/-- a value that is to be stored: data, or a new list of the slot's own -/
def RM (c : Fx) (H : Hp) : Hp → Hp → V → EV → Prop := fun H' G' v d => match d with
  | .un => False
  | .val d => Dat c.K G' c.L v d
  | .own ds => ∃ a vs, v = .ref a ∧ H' a = some (.lst vs) ∧ G' a = none ∧ a ∉ c.L ∧ H a = none ∧ Dats c.K G' c.L vs ds
abbrev FM := En → Mu → Res EV
def tM (c : Fx) (W : WX) (f : FM) : TE := fun σ H Q => ∃ G env μ, FRel c σ H G env μ ∧ tG c W σ H G env (RM c H) (f env μ) Q
abbrev DM (X : Cx) (c : Fx) (W : WX) (e : Expr) (f : FM) : Prop := PE X e (tM c W f)
def fMv (f : FE) : FM := fun env μ => (f env μ).bind fun x μ => match x with | .val d => .ok (.val d) μ | _ => .bad
def fMo (f : FE) : FM := fun env μ => (f env μ).bind fun x μ => match x with | .val (.lst ds) => .ok (.own ds) μ | _ => .bad
section
variable {X : Cx} {c : Fx} {W : WX}
theorem dm_val {e : Expr} {f : FE} (h : DE X c W e f) : DM X c W e (fMv f) := PE.of h fun σ H Q q => by
  obtain ⟨G, env, μ, R, q⟩ := q
  refine ⟨G, env, μ, R, (tG.bind q).imp (fun _ _ _ _ h => h) ?_⟩
  rintro x H1 ⟨G1, μ1, dx, x1, R1, d1, h1⟩
  cases dx with
  | own i => exact h1.elim
  | val d => exact h1.now Ext.refl R1 d1
theorem dm_own {e : Expr} {f : FE} (h : DN X c W e f) : DM X c W e (fMo f) := PE.of h fun σ H Q q => by
  obtain ⟨G, env, μ, R, q⟩ := q
  refine ⟨G, env, μ, R, (tG.bind q).imp (fun _ _ _ _ h => h) ?_⟩
  rintro x H1 ⟨G1, μ1, dx, x1, R1, ⟨a, vs, ds, e1, e2, z1, z2, z3, z4, z5⟩, h1⟩
  subst e1 e2
  exact h1.now Ext.refl R1 ⟨a, vs, rfl, z1, z2, z3, z4, z5⟩
/-! ### readings -/
def sG (c : Fx) (W : WX) (G0 : Hp) (r : SRes) (D : Ends) : Prop := match r with
  | .nxt env μ => ∀ σ H G, Sub G0 G → FRel c σ H G env μ → D.nx σ H
  | .ret d μ => ∀ v H G, RRel c H G μ → RM c c.H0 H G v d → D.rt v H
  | .brk env μ => ∀ σ H G, Sub G0 G → FRel c σ H G env μ → D.bk σ H
  | .cnt env μ => ∀ σ H G, Sub G0 G → FRel c σ H G env μ → D.ct σ H
  | .exc e env μ => ∀ σ H G cls d, Sub G0 G → FRel c σ H G env μ → XDat c H G cls d e → W cls d σ H
  | .bad => False
theorem sG.shift {G0 G1 : Hp} {r : SRes} {D : Ends} (s : Sub G0 G1) (h : sG c W G0 r D) : sG c W G1 r D := by
  cases r with
  | nxt env μ => exact fun σ H G q f => h σ H G (s.trans q) f
  | ret d μ => exact h
  | brk env μ => exact fun σ H G q f => h σ H G (s.trans q) f
  | cnt env μ => exact fun σ H G q f => h σ H G (s.trans q) f
  | exc e env μ => exact fun σ H G cls d q f x => h σ H G cls d (s.trans q) f x
  | bad => exact h
def tS (c : Fx) (W : WX) (f : FS) : TS := fun D σ H => ∃ G env μ, FRel c σ H G env μ ∧ sG c W G (f env μ) D
abbrev DS (X : Cx) (c : Fx) (W : WX) (st : Stmt) (f : FS) : Prop := PS X st (tS c W f)
abbrev DSs (X : Cx) (c : Fx) (W : WX) (st : List Stmt) (f : FS) : Prop := PSs X st (tS c W f)
/-- an expression's result goes on as a statement -/
def Res.to {α : Type} (r : Res α) (env : En) (k : α → Mu → SRes) : SRes := match r with
  | .ok a μ => k a μ
  | .exc e μ => .exc e env μ
  | .bad => .bad
theorem sG.to {α β : Type} {σ : Sl} {H G : Hp} {env : En} {μ : Mu} {R : Hp → Hp → β → α → Prop} {r : Res α} {k : α → Mu → SRes} {D : Ends} (F : FRel c σ H G env μ) (h : sG c W G (r.to env k) D) :
    tG c W σ H G env R r (fun (v : β) H1 => ∃ G1 μ1 a, Ext c.L H G H1 G1 ∧ FRel c σ H1 G1 env μ1 ∧ R H1 G1 v a ∧ sG c W G1 (k a μ1) D) := by
  cases r with
  | ok a μ => exact fun v H' G' x f d => ⟨G', μ, a, x, f, d, h.shift x.gg⟩
  | exc e μ => exact fun cls d H' G' x f q => h σ H' G' cls d x.gg f q
  | bad => exact h
/-! ### blocks -/
def fNext : FS := fun env μ => .nxt env μ
def fSeq (f g : FS) : FS := fun env μ => match f env μ with
  | .nxt env μ => g env μ
  | r => r
theorem dss_nil : DSs X c W [] fNext := PSs.of pss_nil fun D σ H q => by
  obtain ⟨G, env, μ, R, q⟩ := q
  exact q σ H G Sub.refl R
theorem dss_cons {st : Stmt} {rest : List Stmt} {f g : FS} (h1 : DS X c W st f) (h2 : DSs X c W rest g) : DSs X c W (st :: rest) (fSeq f g) := PSs.of (pss_cons h1 h2) fun D σ H q => by
  obtain ⟨G, env, μ, R, q⟩ := q
  refine ⟨G, env, μ, R, ?_⟩
  unfold fSeq at q
  cases e : f env μ with
  | nxt env' μ' => rw [e] at q; exact fun σ' H' G' s' R' => ⟨G', env', μ', R', q.shift s'⟩
  | ret d μ' => rw [e] at q; exact q
  | brk env' μ' => rw [e] at q; exact q
  | cnt env' μ' => rw [e] at q; exact q
  | exc x env' μ' => rw [e] at q; exact q
  | bad => rw [e] at q; exact q.elim
theorem dss_one {st : Stmt} {f : FS} (h1 : DS X c W st f) : DSs X c W [st] f := pss_one h1
def fPass : FS := fun env μ => .nxt env μ
def fBrk : FS := fun env μ => .brk env μ
def fCnt : FS := fun env μ => .cnt env μ
theorem ds_pass {pos : Pos} : DS X c W (.Pass pos) fPass := PS.of ps_pass fun D σ H q => by
  obtain ⟨G, env, μ, R, q⟩ := q
  exact q σ H G Sub.refl R
theorem ds_brk {pos : Pos} : DS X c W (.Break pos) fBrk := PS.of ps_break fun D σ H q => by
  obtain ⟨G, env, μ, R, q⟩ := q
  exact q σ H G Sub.refl R
theorem ds_cnt {pos : Pos} : DS X c W (.Continue pos) fCnt := PS.of ps_continue fun D σ H q => by
  obtain ⟨G, env, μ, R, q⟩ := q
  exact q σ H G Sub.refl R
/-! ### storing -/
theorem set_get {α : Type} {l : List α} {i j : Nat} {x y : α} (h : (l.set i x)[j]? = some y) : (j = i ∧ y = x ∧ i < l.length) ∨ (j ≠ i ∧ l[j]? = some y) := by
  by_cases e : j = i
  · subst e
    by_cases hl : j < l.length
    · rw [List.getElem?_set_self hl] at h
      cases h
      exact .inl ⟨rfl, rfl, hl⟩
    · rw [List.getElem?_eq_none (by rw [List.length_set]; omega)] at h
      cases h
  · rw [List.getElem?_set_ne (Ne.symm e)] at h
    exact .inr ⟨e, h⟩
theorem RM.ne_own {σ : Sl} {H G H' G' : Hp} {env : En} {μ : Mu} (R : FRel c σ H G env μ) {a : Addr} (h4 : H a = none) {i : Nat} {ds : List D} (e : env[i]? = some (.own ds)) : σ[i]? ≠ some (some (.ref a)) := fun z => by
  obtain ⟨b, ws, q1, q2, _⟩ := R.own i ds e
  rw [q1] at z
  have z' : b = a := by injection z with z; injection z with z; injection z
  rw [z', h4] at q2; cases q2
/-- slot i takes v: at H0, G0 the state ahead of the expression -/
theorem FRel.store {σ : Sl} {H G H' G' : Hp} {env : En} {μ μ' : Mu} {v : V} {d : EV} (R : FRel c σ H G env μ) (F : FRel c σ H' G' env μ') (hd : RM c H H' G' v d) (i : Nat) (hi : i < σ.length) : FRel c (σ.set i (some v)) H' G' (env.set i d) μ' := by
  refine ⟨F.toRRel, fun j e h => ?_, fun j es h => ?_, fun j k es fs a h1 h2 h3 h4 => ?_, ?_⟩
  · rcases set_get h with ⟨rfl, rfl, hl⟩ | ⟨ne, h⟩
    · exact ⟨v, List.getElem?_set_self hi, hd⟩
    · obtain ⟨u, q1, q2⟩ := F.val j e h
      exact ⟨u, by rw [List.getElem?_set_ne (Ne.symm ne)]; exact q1, q2⟩
  · rcases set_get h with ⟨rfl, rfl, hl⟩ | ⟨ne, h⟩
    · obtain ⟨a, vs, rfl, z1, z2, z3, z4, z5⟩ := hd
      exact ⟨a, vs, List.getElem?_set_self hi, z1, z2, z3, (R.toRRel.fresh z4).1, z5⟩
    · obtain ⟨b, ws, q1, q2⟩ := F.own j es h
      exact ⟨b, ws, by rw [List.getElem?_set_ne (Ne.symm ne)]; exact q1, q2⟩
  rotate_left
  · rw [List.length_set, List.length_set]; exact F.el
  · have other : ∀ (m : Nat) (gs : List D), (env.set i d)[m]? = some (.own gs) → m ≠ i → env[m]? = some (.own gs) ∧ (σ.set i (some v))[m]? = σ[m]? := fun m gs q ne => by
      rcases set_get q with ⟨z, _⟩ | ⟨_, q⟩
      · exact absurd z ne
      · exact ⟨q, List.getElem?_set_ne (Ne.symm ne)⟩
    have self : ∀ (m : Nat) (gs fs' : List D), (env.set i d)[i]? = some (.own gs) → (σ.set i (some v))[i]? = some (some (.ref a)) → (env.set i d)[m]? = some (.own fs') → (σ.set i (some v))[m]? = some (some (.ref a)) → m = i := fun m gs fs' q1 q2 q3 q4 => by
      refine Classical.byContradiction fun ne => ?_
      obtain ⟨q5, q6⟩ := other m fs' q3 ne
      rw [q6] at q4
      rcases set_get q1 with ⟨_, e, _⟩ | ⟨z, _⟩
      · subst e
        obtain ⟨b, vs, rfl, z1, z2, z3, z4, z5⟩ := hd
        rw [List.getElem?_set_self hi] at q2
        have hb : b = a := by injection q2 with q2; injection q2 with q2; injection q2
        subst hb
        exact RM.ne_own (H' := H) (G' := G) R z4 q5 q4
      · exact absurd rfl z
    by_cases hj : j = i
    · subst hj
      exact (self k es fs h1 h3 h2 h4).symm
    · by_cases hk : k = i
      · subst hk
        exact self j fs es h2 h4 h1 h3
      · obtain ⟨a1, a2⟩ := other j es h1 hj
        obtain ⟨b1, b2⟩ := other k fs h2 hk
        rw [a2] at h3
        rw [b2] at h4
        exact F.inj j k es fs a a1 b1 h3 h4
def fSet (i : Nat) (f : FM) : FS := fun env μ => (f env μ).to env fun d μ => .nxt (env.set i d) μ
theorem slot_lt {σ : Sl} {H : Hp} {pins : List (Addr × Obj)} {s : Shared} {i : Nat} {x : Str} (I : Inv X pins σ H s) (hi : X.N[i]? = some x) : i < σ.length := by
  rw [I.len]; exact (List.getElem?_eq_some_iff.mp hi).1
/-- a statement's rule where the state at its beginning is known -/
theorem PS.ofI {e : Stmt} {t t' : TS} (h : PS X e t) (i : ∀ D σ H, σ.length = X.N.length → t' D σ H → t D σ H) : PS X e t' := ⟨fun pins s σ H D I q => h.run pins s σ H D I (i D σ H I.len q)⟩
theorem ds_set {i : Nat} {x : Str} {e : Expr} {f : FM} {pos pos' : Pos} (hN : X.N.Nodup) (he : DM X c W e f) (hi : X.N[i]? = some x := by rfl) (hx : Loc X.env.scope x := by first | exact Or.inl rfl | exact Or.inr rfl) (hs : swapsWith e (some (.Name x pos')) pos.line X.env = pure false := by rfl) (hf : X.fn x = true ∨ X.env.scope.names.lookup x = some .local := by first | exact .inl rfl | exact .inr rfl) :
    DS X c W (.Assign [.Name x pos'] e pos) (fSet i f) := PS.ofI (ps_set hN hi hx he hs hf) fun D σ H hl q => by
  have hi' : i < σ.length := by rw [hl]; exact (List.getElem?_eq_some_iff.mp hi).1
  obtain ⟨G, env, μ, R, q⟩ := q
  refine ⟨G, env, μ, R, (sG.to R q).imp (fun _ _ _ _ h => h) ?_⟩
  rintro v H1 ⟨G1, μ1, d, x1, R1, d1, h1⟩
  exact h1 _ _ _ Sub.refl (R.store R1 d1 i hi')
/-- a ghost's step: slot i's own list becomes data -/
def fFrz (i : Nat) (f : FS) : FS := fun env μ => match env[i]? with
  | some (.own ds) => f (env.set i (.val (.lst ds))) μ
  | _ => f env μ
theorem FRel.frzSlot {σ : Sl} {H G : Hp} {env : En} {μ : Mu} (R : FRel c σ H G env μ) {i : Nat} {ds : List D} (e : env[i]? = some (.own ds)) : ∃ G', Sub G G' ∧ FRel c σ H G' (env.set i (.val (.lst ds))) μ := by
  obtain ⟨a, vs, h1, h2, h3, h4, h5, h6⟩ := R.own i ds e
  have g : Sub G (upd G a (.lst vs)) := sub_upd h3
  refine ⟨upd G a (.lst vs), g, ⟨⟨fun b o q => ?_, R.nd, R.len, fun n b es e1 e2 => ?_, R.keep, R.gg.trans g, fun b o q => ?_⟩, fun j d q => ?_, fun j es q => ?_, fun j k es fs b q1 q2 q3 q4 => ?_, by rw [List.length_set]; exact R.el⟩⟩
  · by_cases h : b = a
    · subst h; rw [upd_same] at q; rw [h2]; exact q
    · rw [upd_ne h] at q; exact R.sub b o q
  · obtain ⟨q1, ws, q2, q3⟩ := R.loc n b es e1 e2
    have hb : b ≠ a := fun z => h4 (z ▸ List.mem_of_getElem? e1)
    exact ⟨by rw [upd_ne hb]; exact q1, ws, q2, q3.up g⟩
  · by_cases h : b = a
    · subst h; exact .inr ⟨h5, h4⟩
    · rw [upd_ne h] at q; exact R.newG b o q
  · rcases set_get q with ⟨rfl, q', _⟩ | ⟨ne, q⟩
    · cases q'
      exact ⟨_, h1, Dat.lst upd_same (h6.up g)⟩
    · obtain ⟨v, q1, q2⟩ := R.val j d q
      exact ⟨v, q1, q2.up g⟩
  · rcases set_get q with ⟨rfl, q', _⟩ | ⟨ne, q⟩
    · cases q'
    · obtain ⟨b, ws, q1, q2, q3, q4, q5, q6⟩ := R.own j es q
      have hb : b ≠ a := fun z => ne (R.inj j i es ds a q e (z ▸ q1) h1)
      exact ⟨b, ws, q1, q2, by rw [upd_ne hb]; exact q3, q4, q5, q6.up g⟩
  · rcases set_get q1 with ⟨_, q', _⟩ | ⟨_, q1⟩
    · cases q'
    · rcases set_get q2 with ⟨_, q', _⟩ | ⟨_, q2⟩
      · cases q'
      · exact R.inj j k es fs b q1 q2 q3 q4
theorem tS.frz {f : FS} {i : Nat} {D : Ends} {σ : Sl} {H : Hp} (q : tS c W (fFrz i f) D σ H) : tS c W f D σ H := by
  obtain ⟨G, env, μ, R, q⟩ := q
  unfold fFrz at q
  split at q
  · rename_i ds e
    obtain ⟨G', g, R'⟩ := R.frzSlot e
    exact ⟨G', _, μ, R', q.shift g⟩
  · exact ⟨G, env, μ, R, q⟩
theorem ds_frz (i : Nat) {st : Stmt} {f : FS} (h : DS X c W st f) : DS X c W st (fFrz i f) := PS.of h fun _ _ _ q => q.frz
theorem dss_frz (i : Nat) {st : List Stmt} {f : FS} (h : DSs X c W st f) : DSs X c W st (fFrz i f) := PSs.of h fun _ _ _ q => q.frz
/-! ### return, if, an expression alone -/
def fRet (f : FM) : FS := fun env μ => (f env μ).to env fun d μ => .ret d μ
theorem RM.base {H G H1 G1 H' G' : Hp} (x : Ext c.L H G H1 G1) {v : V} {d : EV} (h : RM c H1 H' G' v d) : RM c H H' G' v d := by
  cases d with
  | un => exact h
  | val d => exact h
  | own ds =>
    obtain ⟨a, vs, e1, h1, h2, h3, h4, h5⟩ := h
    refine ⟨a, vs, e1, h1, h2, h3, ?_, h5⟩
    cases e : H a with
    | none => rfl
    | some u => rw [x.keep a u e h3] at h4; cases h4
theorem RM.entry {σ : Sl} {H G H' G' : Hp} {env : En} {μ : Mu} (R : FRel c σ H G env μ) {v : V} {d : EV} (h : RM c H H' G' v d) : RM c c.H0 H' G' v d := by
  cases d with
  | un => exact h
  | val d => exact h
  | own ds =>
    obtain ⟨a, vs, e1, h1, h2, h3, h4, h5⟩ := h
    exact ⟨a, vs, e1, h1, h2, h3, (R.toRRel.fresh h4).1, h5⟩
theorem ds_ret {e : Expr} {f : FM} {pos : Pos} (he : DM X c W e f) : DS X c W (.Return (some e) pos) (fRet f) := PS.of (ps_ret he) fun D σ H q => by
  obtain ⟨G, env, μ, R, q⟩ := q
  refine ⟨G, env, μ, R, (sG.to R q).imp (fun _ _ _ _ h => h) ?_⟩
  rintro v H1 ⟨G1, μ1, d, x1, R1, d1, h1⟩
  exact h1 _ _ _ R1.toRRel (d1.entry R)
/-- return x, x a list of the frame's own -/
def fRetO (i : Nat) : FS := fun env μ => match env[i]? with
  | some (.own ds) => .ret (.own ds) μ
  | some (.val d) => .ret (.val d) μ
  | _ => .bad
theorem ds_retO (i : Nat) {x : Str} {p pos : Pos} (hN : X.N[i]? = some x := by rfl) (hv : Vis X.env.scope x := by first | exact Or.inl rfl | exact Or.inr (Or.inl rfl) | exact Or.inr (Or.inr rfl)) (hd : (x == ("__debug__" : Str)) = false := by decide) (hcd : (x == ("__classdict__" : Str)) = false := by decide) : DS X c W (.Return (some (.Name x p)) pos) (fRetO i) := PS.of (ps_ret (pe_var hN hv hd hcd)) fun D σ H q => by
  obtain ⟨G, env, μ, R, q⟩ := q
  unfold fRetO at q
  split at q
  · rename_i ds e
    obtain ⟨a, vs, h1, h2, h3, h4, h5, h6⟩ := R.own i ds e
    exact ⟨_, h1, q _ _ _ R.toRRel ⟨a, vs, rfl, h2, h3, h4, h5, h6⟩⟩
  · rename_i d e
    obtain ⟨v, h1, h2⟩ := R.val i d e
    exact ⟨_, h1, q _ _ _ R.toRRel h2⟩
  · exact q.elim
def fIfS (ft : FT) (f g : FS) : FS := fun env μ => (ft env μ).to env fun b μ => if b then f env μ else g env μ
theorem ds_if {t : Expr} {a b : List Stmt} {pos : Pos} {ft : FT} {f g : FS} (ht : DT X c W t ft) (ha : DSs X c W a f) (hb : DSs X c W b g) : DS X c W (.If t a b pos) (fIfS ft f g) := PS.of (ps_if ht ha hb) fun D σ H q => by
  obtain ⟨G, env, μ, R, q⟩ := q
  refine ⟨G, env, μ, R, (sG.to R q).imp (fun _ _ _ _ h => h) ?_⟩
  rintro v H1 ⟨G1, μ1, d, x1, R1, d1, h1⟩
  cases d1
  cases v with
  | true => exact (if_pos rfl).mpr ⟨G1, env, μ1, R1, h1⟩
  | false => exact (if_neg Bool.false_ne_true).mpr ⟨G1, env, μ1, R1, h1⟩
def fDrop (f : FE) : FS := fun env μ => (f env μ).to env fun _ μ => .nxt env μ
theorem ds_expr {e : Expr} {f : FE} {pos : Pos} (he : DE X c W e f) (hs : swapsWith e none pos.line X.env = pure false := by rfl) : DS X c W (.Expr e pos) (fDrop f) := PS.of (ps_expr he hs) fun D σ H q => by
  obtain ⟨G, env, μ, R, q⟩ := q
  refine ⟨G, env, μ, R, (sG.to R q).imp (fun _ _ _ _ h => h) ?_⟩
  rintro v H1 ⟨G1, μ1, d, x1, R1, d1, h1⟩
  exact h1 _ _ _ Sub.refl R1
/-! ### lists that change -/
def getL (env : En) (μ : Mu) (i : Nat) : Option (List D) := match env[i]? with
  | some (.own ds) => some ds
  | some (.val (.loc n)) => μ[n]?
  | _ => none
def putL (env : En) (μ : Mu) (i : Nat) (ds : List D) : En × Mu := match env[i]? with
  | some (.own _) => (env.set i (.own ds), μ)
  | some (.val (.loc n)) => (env, μ.set n ds)
  | _ => (env, μ)
theorem FRel.mut {σ : Sl} {H G : Hp} {env : En} {μ : Mu} (R : FRel c σ H G env μ) {i : Nat} {ds : List D} (e : getL env μ i = some ds) : ∃ a vs, σ[i]? = some (some (.ref a)) ∧ H a = some (.lst vs) ∧ Dats c.K G c.L vs ds ∧
    ∀ ws es, Dats c.K G c.L ws es → FRel c σ (upd H a (.lst ws)) G (putL env μ i es).1 (putL env μ i es).2 := by
  unfold getL at e
  split at e
  · rename_i es ee
    cases e
    obtain ⟨a, vs, h1, h2, h3, h4, h5, h6⟩ := R.own i ds ee
    refine ⟨a, vs, h1, h2, h6, fun ws es hd => ?_⟩
    have hp : putL env μ i es = (env.set i (.own es), μ) := by unfold putL; rw [ee]
    rw [hp]
    have ga : ∀ b o, G b = some o → b ≠ a := fun b o q z => by rw [z, h3] at q; cases q
    refine ⟨⟨fun b o q => by rw [upd_ne (ga b o q)]; exact R.sub b o q, R.nd, R.len, fun n b fs e1 e2 => ?_, fun b o q n => ?_, R.gg, R.newG⟩, fun j d q => ?_, fun j fs q => ?_, fun j k fs gs b q1 q2 q3 q4 => ?_, by rw [List.length_set]; exact R.el⟩
    · obtain ⟨q1, us, q2, q3⟩ := R.loc n b fs e1 e2
      have hb : b ≠ a := fun z => h4 (z ▸ List.mem_of_getElem? e1)
      exact ⟨q1, us, by rw [upd_ne hb]; exact q2, q3⟩
    · have hb : b ≠ a := fun z => by rw [z, h5] at q; cases q
      rw [upd_ne hb]; exact R.keep b o q n
    · rcases set_get q with ⟨_, q', _⟩ | ⟨_, q⟩
      · cases q'
      · exact R.val j d q
    · rcases set_get q with ⟨rfl, q', _⟩ | ⟨ne, q⟩
      · cases q'
        exact ⟨a, ws, h1, upd_same, h3, h4, h5, hd⟩
      · obtain ⟨b, us, q1, q2, q3, q4, q5, q6⟩ := R.own j fs q
        have hb : b ≠ a := fun z => ne (R.inj j i fs ds a q ee (z ▸ q1) h1)
        exact ⟨b, us, q1, by rw [upd_ne hb]; exact q2, q3, q4, q5, q6⟩
    · have up : ∀ (m : Nat) (hs : List D), (env.set i (.own es))[m]? = some (.own hs) → ∃ hs', env[m]? = some (.own hs') := fun m hs q => by
        rcases set_get q with ⟨rfl, _, _⟩ | ⟨_, q⟩
        · exact ⟨_, ee⟩
        · exact ⟨_, q⟩
      obtain ⟨_, u1⟩ := up j fs q1
      obtain ⟨_, u2⟩ := up k gs q2
      exact R.inj j k _ _ b u1 u2 q3 q4
  · rename_i n ee
    obtain ⟨v, h1, h2⟩ := R.val i _ ee
    cases h2 with
    | loc hl =>
      rename_i a
      obtain ⟨g, vs, q1, q2⟩ := R.loc n a ds hl e
      refine ⟨a, vs, h1, q1, q2, fun ws es hd => ?_⟩
      have hp : putL env μ i es = (env, μ.set n es) := by unfold putL; rw [ee]
      rw [hp]
      have ma : a ∈ c.L := List.mem_of_getElem? hl
      have ga : ∀ b o, G b = some o → b ≠ a := fun b o q z => by rw [z, g] at q; cases q
      refine ⟨⟨fun b o q => by rw [upd_ne (ga b o q)]; exact R.sub b o q, R.nd, by rw [List.length_set]; exact R.len, fun m b fs e1 e2 => ?_, fun b o q nb => ?_, R.gg, R.newG⟩, R.val, fun j fs q => ?_, R.inj, R.el⟩
      · rcases set_get e2 with ⟨rfl, e2', _⟩ | ⟨ne, e2⟩
        · rw [hl] at e1; cases e1
          subst e2'
          exact ⟨g, ws, upd_same, hd⟩
        · obtain ⟨z1, us, z2, z3⟩ := R.loc m b fs e1 e2
          have hb : b ≠ a := fun z => ne (by
            have h1 := (List.getElem?_eq_some_iff.mp e1)
            have h2 := (List.getElem?_eq_some_iff.mp hl)
            obtain ⟨l1, e1'⟩ := h1
            obtain ⟨l2, e2'⟩ := h2
            exact (List.getElem_inj R.nd).mp (by rw [e1', e2', z]))
          exact ⟨z1, us, by rw [upd_ne hb]; exact z2, z3⟩
      · have hb : b ≠ a := fun z => nb (z ▸ ma)
        rw [upd_ne hb]; exact R.keep b o q nb
      · obtain ⟨b, us, z1, z2, z3, z4, z5, z6⟩ := R.own j fs q
        have hb : b ≠ a := fun z => z4 (z ▸ ma)
        exact ⟨b, us, z1, by rw [upd_ne hb]; exact z2, z3, z4, z5, z6⟩
  · cases e
/-- x.append(e) -/
def fApp (i : Nat) (fa : FE) : FS := fun env μ => match getL env μ i with
  | none => .bad
  | some _ => (fa env μ).to env fun x μ => match x, getL env μ i with
    | .val d, some ds => if ds.length < LIM then .nxt (putL env μ i (ds ++ [d])).1 (putL env μ i (ds ++ [d])).2 else .bad
    | _, _ => .bad
theorem ds_app (i : Nat) {x : Str} {e : Expr} {fa : FE} {p apos pos pos' : Pos} {T : TE} (ho : PE X (.Name x p) (tVar i)) (ha : DE X c W e fa)
    (h : PS X (.Expr (.Call (.Attribute (.Name x p) "append" apos) [e] [] pos) pos') (tDrop (tBM X.K "list" rAppend (tVar i) (tCons (tE c W fa) tNil)))) : DS X c W (.Expr (.Call (.Attribute (.Name x p) "append" apos) [e] [] pos) pos') (fApp i fa) := PS.of h fun D σ H q => by
  obtain ⟨G, env, μ, R, q⟩ := q
  unfold fApp at q
  split at q
  · exact q.elim
  · rename_i ds0 e0
    obtain ⟨a, vs, h1, h2, h3, _⟩ := R.mut e0
    refine ⟨.ref a, h1, .inl ⟨rfl, vs, SqL.of h2⟩, G, env, μ, R, (sG.to R q).imp (fun _ _ _ _ h => h) ?_⟩
    rintro v H1 ⟨G1, μ1, dx, x1, R1, d1, q1⟩
    cases dx with
    | own j => exact q1.elim
    | val d =>
      split at q1
      · rename_i d' ds1 ed e1
        cases ed
        split at q1
        · rename_i hl
          obtain ⟨b, ws, z1, z2, z3, z4⟩ := R1.mut e1
          rw [h1] at z1
          have hb : a = b := by injection z1 with z1; injection z1 with z1; injection z1
          subst hb
          refine ⟨a, ws, v, rfl, rfl, z2, by rw [z3.length, ← LIM_eq]; exact hl, ?_⟩
          exact q1 _ _ _ Sub.refl (z4 (ws ++ [v]) (ds1 ++ [d]) (z3.append (.cons d1 .nil)))
        · exact q1.elim
      · exact q1.elim
theorem ds_append (i : Nat) {x : Str} {e : Expr} {fa : FE} {p apos pos pos' : Pos} (ha : DE X c W e fa) (hN : X.N[i]? = some x := by rfl) (hv : Vis X.env.scope x := by first | exact Or.inl rfl | exact Or.inr (Or.inl rfl) | exact Or.inr (Or.inr rfl)) (hd : (x == ("__debug__" : Str)) = false := by decide) (hcd : (x == ("__classdict__" : Str)) = false := by decide)
    (hbase : attributeBase (.Name x p) "append" X.env (eval (.Name x p) X.env) = eval (.Name x p) X.env := by rfl)
    (hfew : ((backTo pos (starEach [e] X.env)).all (fun x => !x.1) && (backToKw pos (keywordEach [] X.env)).all (fun x => x.1.isSome) && decide ([e].length + ([] : List Keyword).length + (if ([] : List Keyword).isEmpty then 0 else 1) < 30)) = true := by rfl)
    (hline : (apos.endLine == pos.line) = true := by rfl) (hs : starEach [e] X.env = (false, eval e X.env) :: starEach [] X.env := by rfl) (hsw : swapsWith (.Call (.Attribute (.Name x p) "append" apos) [e] [] pos) none pos'.line X.env = pure false := by rfl) :
    DS X c W (.Expr (.Call (.Attribute (.Name x p) "append" apos) [e] [] pos) pos') (fApp i fa) :=
  ds_app (T := tVar i) i (pe_var hN hv hd hcd) ha (ps_expr (pe_bm PySem.F.plainAttrs_list PySem.F.slot_list_append PySem.F.type_list_append mt_append (pe_var hN hv hd hcd) (pa_cons ha pa_nil hs) hbase hfew hline hs (by rfl)) hsw)
end
end Q

set_option Elab.async false
set_option linter.all false
set_option maxRecDepth 100000
set_option maxHeartbeats 4000000
/-! QH: targets, loops, comprehensions of the pure layer. -/
namespace Q
open PySem PySem.Spec PyProof.Rows L2
/-! ### targets -/
inductive Tg where
  | nm (i : Nat) | tp (ts : List Tg)
mutual
def Tg.slots : Tg → List Nat
  | .nm i => [i]
  | .tp ts => Tg.slotss ts
def Tg.slotss : List Tg → List Nat
  | [] => []
  | t :: ts => Tg.slots t ++ Tg.slotss ts
end
mutual
def Tg.bind : Tg → D → En → Option En
  | .nm i, d, env => if i < env.length then some (env.set i (.val d)) else none
  | .tp ts, .tup ds, env => Tg.binds ts ds env
  | .tp ts, .lst ds, env => Tg.binds ts ds env
  | .tp _, _, _ => none
def Tg.binds : List Tg → List D → En → Option En
  | [], [], env => some env
  | t :: ts, d :: ds, env => match Tg.bind t d env with
    | some env => Tg.binds ts ds env
    | none => none
  | _, _, _ => none
end
def Off (vs : List Nat) (σ σ' : Sl) : Prop := σ'.length = σ.length ∧ ∀ j, j ∉ vs → σ'[j]? = σ[j]?
theorem Off.refl {vs : List Nat} {σ : Sl} : Off vs σ σ := ⟨rfl, fun _ _ => rfl⟩
theorem Off.trans {vs ws : List Nat} {σ σ1 σ2 : Sl} (a : Off vs σ σ1) (b : Off ws σ1 σ2) : Off (vs ++ ws) σ σ2 :=
  ⟨b.1.trans a.1, fun j h => (b.2 j fun z => h (List.mem_append_right _ z)).trans (a.2 j fun z => h (List.mem_append_left _ z))⟩
def tGt (c : Fx) (t : Tg) : TG := fun v σ H Q => ∃ G env μ d env', FRel c σ H G env μ ∧ Dat c.K G c.L v d ∧ t.bind d env = some env' ∧ ∀ σ', FRel c σ' H G env' μ → Off t.slots σ σ' → Q σ' H
def tGts (c : Fx) (ts : List Tg) : TGs := fun vs σ H Q => ∃ G env μ ds env', FRel c σ H G env μ ∧ Dats c.K G c.L vs ds ∧ Tg.binds ts ds env = some env' ∧ ∀ σ', FRel c σ' H G env' μ → Off (Tg.slotss ts) σ σ' → Q σ' H
theorem PG.of {X : Cx} {e : Expr} {t t' : TG} (h : PG X e t) (i : ∀ v σ H Q, t' v σ H Q → t v σ H Q) : PG X e t' := ⟨fun pins s σ H v u Q I r q => h.run pins s σ H v u Q I r (i v σ H Q q)⟩
theorem PGs.of {X : Cx} {e : List Expr} {t t' : TGs} (h : PGs X e t) (i : ∀ v σ H Q, t' v σ H Q → t v σ H Q) : PGs X e t' := ⟨fun pins s σ H v u Q I r q => h.run pins s σ H v u Q I r (i v σ H Q q)⟩
abbrev DG (X : Cx) (c : Fx) (e : Expr) (t : Tg) : Prop := PG X e (tGt c t)
section
variable {X : Cx} {c : Fx} {W : WX}
theorem dg_name (i : Nat) {x : Str} {pos : Pos} (hN : X.N.Nodup) (hi : X.N[i]? = some x := by rfl) (hx : Loc X.env.scope x := by first | exact Or.inl rfl | exact Or.inr rfl) (hf : X.fn x = true ∨ X.env.scope.names.lookup x = some .local := by first | exact .inl rfl | exact .inr rfl) : DG X c (.Name x pos) (.nm i) := PG.of (pg_name hN hi hx hf) fun v σ H Q q => by
  obtain ⟨G, env, μ, d, env', R, dd, e, q⟩ := q
  simp only [Tg.bind] at e
  split at e
  · rename_i hl
    cases e
    refine q _ (R.store (H' := H) (G' := G) (d := .val d) R dd i (by rw [← R.el]; exact hl)) ⟨List.length_set, fun j hj => ?_⟩
    exact List.getElem?_set_ne fun z => hj (by rw [← z]; exact List.mem_singleton.mpr rfl)
  · cases e
theorem dgs_nil : PGs X [] (tGts c []) := PGs.of pgs_nil fun v σ H Q q => by
  obtain ⟨G, env, μ, ds, env', R, dd, e, q⟩ := q
  cases dd with
  | nil => cases e; exact ⟨rfl, q σ R Off.refl⟩
  | cons _ _ => cases e
theorem dgs_cons {e : Expr} {es : List Expr} {t : Tg} {ts : List Tg} (h1 : DG X c e t) (h2 : PGs X es (tGts c ts)) (hs : (assignEach (e :: es) X.env).map (·.2) = assign e X.env :: (assignEach es X.env).map (·.2) := by rfl) : PGs X (e :: es) (tGts c (t :: ts)) := PGs.of (pgs_cons h1 h2 hs) fun v σ H Q q => by
  obtain ⟨G, env, μ, ds, env', R, dd, e, q⟩ := q
  cases dd with
  | nil => cases e
  | cons d1 d2 =>
    rename_i x d vs ds
    simp only [Tg.binds] at e
    split at e
    · rename_i env1 e1
      refine ⟨x, vs, rfl, G, env, μ, d, env1, R, d1, e1, fun σ1 R1 o1 => ?_⟩
      exact ⟨G, env1, μ, ds, env', R1, d2, e, fun σ2 R2 o2 => q σ2 R2 (o1.trans o2)⟩
    · cases e
theorem binds_len : ∀ {ts : List Tg} {ds : List D} {env env' : En}, Tg.binds ts ds env = some env' → ds.length = ts.length
  | [], [], _, _, _ => rfl
  | [], _ :: _, _, _, h => by cases h
  | _ :: _, [], _, _, h => by cases h
  | t :: ts, d :: ds, env, env', h => by
    simp only [Tg.binds] at h
    split at h
    · exact congrArg (· + 1) (binds_len h)
    · cases h
theorem dg_tup {es : List Expr} {k : Nat} {pos : Pos} {ts : List Tg} (hc : X.calm = true) (h : PGs X es (tGts c ts)) (hn : (assignEach es X.env).length = ts.length := by rfl) (hst : (assignEach es X.env).findIdx? (·.1) = none := by rfl) (hk : X.K = c.K := by rfl) : DG X c (.Tuple es k pos) (.tp ts) := ⟨fun pins s σ H v u Q I r q => by
  obtain ⟨G, env, μ, d, env', R, dd, e, q⟩ := q
  cases dd with
  | tup s t =>
    simp only [Tg.bind] at e
    exact (pg_tup hc h hn hst).run pins _ σ H _ u Q I r ⟨_, _, rfl, hk ▸ R.sub.sqT s, by rw [t.length]; exact binds_len e, G, env, μ, _, env', R, t, e, q⟩
  | lst s t =>
    simp only [Tg.bind] at e
    exact (pg_lst hc h hn hst).run pins _ σ H _ u Q I r ⟨_, _, rfl, SqL.of (R.sub _ _ s), by rw [t.length]; exact binds_len e, G, env, μ, _, env', R, t, e, q⟩
  | _ => cases e⟩
/-- a, b = e -/
def fAsg (t : Tg) (f : FE) : FS := fun env μ => (f env μ).to env fun x μ => match x with
  | .val d => match t.bind d env with
    | some env => .nxt env μ
    | none => .bad
  | _ => .bad
theorem ds_asg {tg e : Expr} {f : FE} {t : Tg} {pos : Pos} (he : DE X c W e f) (hg : DG X c tg t) (hs : swapsWithSole [tg] e pos.line X.env = pure false := by rfl) (hw : swappedStores [tg] e X.env = pure none := by rfl)
    (h1 : (assignEach [tg] X.env).map (·.2) = [assign tg X.env] := by rfl) : DS X c W (.Assign [tg] e pos) (fAsg t f) := PS.of (ps_asg he hg hs hw h1) fun D σ H q => by
  obtain ⟨G, env, μ, R, q⟩ := q
  refine ⟨G, env, μ, R, (sG.to R q).imp (fun _ _ _ _ h => h) ?_⟩
  rintro v H1 ⟨G1, μ1, d, x1, R1, d1, h1⟩
  cases d with
  | own i => exact h1.elim
  | val d =>
    dsimp only at h1
    split at h1
    · rename_i env' e
      exact ⟨G1, env, μ1, d, env', R1, d1, e, fun σ' R' _ => h1 σ' H1 G1 Sub.refl R'⟩
    · exact h1.elim
/-- a, b = x, y: each side told as one to be stored -/
def fPar (i j : Nat) (f g : FM) : FS := fun env μ => (f env μ).to env fun d μ => (g env μ).to env fun e μ => .nxt ((env.set i d).set j e) μ
theorem ds_par {i j : Nat} {x y : Str} {a b : Expr} {f g : FM} {px py pt : Pos} {kt k2 pt2 pos} (hc : X.calm = true) (hN : X.N.Nodup) (ha : DM X c W a f) (hb : DM X c W b g) (hi : X.N[i]? = some x := by rfl) (hj : X.N[j]? = some y := by rfl) (hij : i ≠ j := by decide)
    (hx : X.env.scope.names.lookup x = some .local := by rfl) (hy : X.env.scope.names.lookup y = some .local := by rfl)
    (hs1 : starEach [a, b] X.env = (false, eval a X.env) :: starEach [b] X.env := by rfl) (hs2 : starEach [b] X.env = (false, eval b X.env) :: starEach [] X.env := by rfl)
    (hw : swappedStores [.Tuple [.Name x px, .Name y py] kt pt] (.Tuple [a, b] k2 pt2) X.env = pure (some [x, y]) := by rfl)
    (hs : swapsWithSole [.Tuple [.Name x px, .Name y py] kt pt] (.Tuple [a, b] k2 pt2) pos.line X.env = pure false := by rfl) : DS X c W (.Assign [.Tuple [.Name x px, .Name y py] kt pt] (.Tuple [a, b] k2 pt2) pos) (fPar i j f g) :=
  PS.ofI (ps_par hc hN hi hj hij hx hy (pa_cons ha (pa_cons hb pa_nil hs2) hs1) hw hs) fun D σ H hl q => by
  have hi' : i < σ.length := by rw [hl]; exact (List.getElem?_eq_some_iff.mp hi).1
  have hj' : j < σ.length := by rw [hl]; exact (List.getElem?_eq_some_iff.mp hj).1
  obtain ⟨G, env, μ, R, q⟩ := q
  refine ⟨G, env, μ, R, (sG.to R q).imp (fun _ _ _ _ h => h) ?_⟩
  rintro v H1 ⟨G1, μ1, d, x1, R1, d1, h1⟩
  refine ⟨G1, env, μ1, R1, (sG.to R1 h1).imp (fun _ _ _ _ h => h) ?_⟩
  rintro w H2 ⟨G2, μ2, e, x2, R2, d2, h2⟩
  refine ⟨v, w, rfl, h2 _ _ _ Sub.refl ?_⟩
  have d1' : RM c H H2 G2 v d := by
    cases d with
    | un => exact d1
    | val d => exact Dat.up x2.gg d1
    | own ds =>
      obtain ⟨a, vs, e1, z1, z2, z3, z4, z5⟩ := d1
      refine ⟨a, vs, e1, x2.keep _ _ z1 z3, ?_, z3, z4, z5.up x2.gg⟩
      cases q : G2 a with
      | none => rfl
      | some o =>
        rcases x2.newG a o q with z | ⟨z, _⟩
        · rw [z2] at z; cases z
        · rw [z1] at z; cases z
  -- first into i
  have F1 : FRel c (σ.set i (some v)) H1 G1 (env.set i d) μ1 := R.store R1 d1 i hi'
  have F2 : FRel c (σ.set i (some v)) H2 G2 (env.set i d) μ2 := R.store R2 d1' i hi'
  exact F1.store F2 d2 j (by rw [List.length_set]; exact hj')
/-! ### what is walked -/
structure WalkD (c : Fx) (Gd : Hp → Hp → Prop) (J : It) (ds : List D) : Prop where
  go : ∀ i H G, i < ds.length → Gd H G → J.go i H
  stop : ∀ H G, Gd H G → J.stop ds.length H
  yld : ∀ i H G x H', i < ds.length → Gd H G → Sub G H → J.yld i H x H' → ∃ G2, Sub H H' ∧ Sub G G2 ∧ Sub G2 H' ∧ (∀ b o, G2 b = some o → G b = some o ∨ H b = none) ∧ ∃ d, ds[i]? = some d ∧ Dat c.K G2 c.L x d
abbrev FI := En → Mu → Res (List D)
def iG (c : Fx) (W : WX) (σ : Sl) (H G : Hp) (env : En) (r : Res (List D)) (R : It → Hp → Prop) : Prop := match r with
  | .ok ds μ' => ∀ J H' G', Ext c.L H G H' G' → FRel c σ H' G' env μ' → WalkD c (fun H G => Sub G' G ∧ Sub G H) J ds → R J H'
  | .exc e μ' => ∀ cls d H' G', Ext c.L H G H' G' → FRel c σ H' G' env μ' → XDat c H' G' cls d e → W cls d σ H'
  | .bad => False
theorem iG.bind {α β : Type} {σ : Sl} {H G : Hp} {env : En} {R' : Hp → Hp → β → α → Prop} {r : Res α} {g : α → Mu → Res (List D)} {R : It → Hp → Prop} (h : iG c W σ H G env (r.bind g) R) :
    tG c W σ H G env R' r (fun (v : β) H1 => ∃ G1 μ1 a, Ext c.L H G H1 G1 ∧ FRel c σ H1 G1 env μ1 ∧ R' H1 G1 v a ∧ iG c W σ H1 G1 env (g a μ1) R) := by
  cases r with
  | ok a μ =>
    intro v H' G' x f d
    refine ⟨G', μ, a, x, f, d, ?_⟩
    have h' : iG c W σ H G env (g a μ) R := h
    revert h'
    cases g a μ with
    | ok ds m => exact fun h J H2 G2 y f2 w => h J H2 G2 (x.trans y) f2 w
    | exc e m => exact fun h cls d H2 G2 y f2 q => h cls d H2 G2 (x.trans y) f2 q
    | bad => exact id
  | exc e μ => exact h
  | bad => exact h
theorem iG.now {σ : Sl} {H G : Hp} {env : En} {μ : Mu} {ds : List D} {R : It → Hp → Prop} {J : It} (h : iG c W σ H G env (.ok ds μ) R) (F : FRel c σ H G env μ) (w : WalkD c (fun H2 G2 => Sub G G2 ∧ Sub G2 H2) J ds) : R J H := h J H G Ext.refl F w
/-- the source never changes -/
def tI (c : Fx) (W : WX) (f : FI) : TI := fun σ H R => ∃ G env μ, FRel c σ H G env μ ∧ iG c W σ H G env (f env μ) R
abbrev DI (X : Cx) (c : Fx) (W : WX) (tg iter : Expr) (f : FI) : Prop := PI X tg iter (tI c W f)
theorem PI.of {X : Cx} {tg e : Expr} {t t' : TI} (h : PI X tg e t) (i : ∀ σ H Q, t' σ H Q → t σ H Q) : PI X tg e t' := ⟨fun pins s σ H Q I q => h.run pins s σ H Q I (i σ H Q q)⟩
/-! ### for -/
def loop (t : Tg) (body : FS) : List D → En → Mu → SRes
  | [], env, μ => .nxt env μ
  | d :: ds, env, μ => match t.bind d env with
    | none => .bad
    | some env => match body env μ with
      | .nxt env μ => loop t body ds env μ
      | .cnt env μ => loop t body ds env μ
      | .brk env μ => .nxt env μ
      | r => r
def fFor (fi : FI) (t : Tg) (body : FS) : FS := fun env μ => (fi env μ).to env fun ds μ => loop t body ds env μ
theorem drop_at {α : Type} {l : List α} {i : Nat} {d : α} (h : l[i]? = some d) : l.drop i = d :: l.drop (i + 1) := by
  obtain ⟨hl, e⟩ := List.getElem?_eq_some_iff.mp h
  rw [← e]; exact List.drop_eq_getElem_cons hl
theorem ds_for {iter tg : Expr} {body : List Stmt} {pos : Pos} {fi : FI} {t : Tg} {fb : FS} (hp : PassesOwn (model X.prog X.w) X.A X.env X.xe) (hc : X.calm = true) (hi : DI X c W tg iter fi) (hg : DG X c tg t) (hb : DSs X c W body fb)
    (hs : ∀ x, foldedSetIterable iter X.env x = pure x := by intro _; rfl) : DS X c W (.For tg iter body [] pos) (fFor fi t fb) := PS.of (ps_for hp hc hi hg hb hs) fun D σ H q => by
  obtain ⟨G, env, μ, R, q⟩ := q
  refine ⟨G, env, μ, R, ?_⟩
  unfold fFor at q
  cases e : fi env μ with
  | bad => rw [e] at q; exact q
  | exc x μ' => rw [e] at q; exact fun cls d H' G' xt F xd => q σ H' G' cls d xt.gg F xd
  | ok ds μ' =>
    rw [e] at q
    dsimp only [Res.to] at q
    intro J H1 G1 x1 R1 wk
    refine ⟨fun i m σ H => m = ds.length - i ∧ i ≤ ds.length ∧ ∃ G env μ, FRel c σ H G env μ ∧ Sub G1 G ∧ sG c W G (loop t fb (ds.drop i) env μ) D, ⟨ds.length, by omega, Nat.zero_le _, G1, env, μ', R1, Sub.refl, by rw [List.drop_zero]; exact q.shift x1.gg⟩, ?_⟩
    rintro i m σ2 H2 ⟨rfl, hi, G2, env2, μ2, R2, s2, q2⟩
    by_cases hlt : i < ds.length
    · refine .inr ⟨wk.go i H2 G2 hlt ⟨s2, R2.sub⟩, fun σ H => ∃ G env μ, FRel c σ H G env μ ∧ Sub G1 G ∧ sG c W G (loop t fb (ds.drop (i + 1)) env μ) D, fun σ' H' h => ⟨ds.length - (i + 1), by omega, rfl, hlt, h⟩, fun x H3 y => ?_⟩
      obtain ⟨G3, hh, gg, sub, new, d, ed, dd⟩ := wk.yld i H2 G2 x H3 hlt ⟨s2, R2.sub⟩ R2.sub y
      obtain ⟨R3, x3⟩ := R2.grow hh gg sub new
      rw [drop_at ed] at q2
      simp only [loop] at q2
      cases eb : t.bind d env2 with
      | none => rw [eb] at q2; exact q2.elim
      | some env3 =>
        rw [eb] at q2
        dsimp only at q2
        refine ⟨G3, env2, μ2, d, env3, R3, dd, eb, fun σ4 R4 _ => ⟨G3, env3, μ2, R4, ?_⟩⟩
        have q3 := q2.shift gg
        cases er : fb env3 μ2 with
        | nxt env' μ'' => rw [er] at q3; exact fun σ' H' G' s' F' => ⟨G', env', μ'', F', (s2.trans gg).trans s', q3.shift s'⟩
        | cnt env' μ'' => rw [er] at q3; exact fun σ' H' G' s' F' => ⟨G', env', μ'', F', (s2.trans gg).trans s', q3.shift s'⟩
        | brk env' μ'' => rw [er] at q3; exact q3
        | ret v μ'' => rw [er] at q3; exact q3
        | exc x env' μ'' => rw [er] at q3; exact q3
        | bad => rw [er] at q3; exact q3.elim
    · have ei : i = ds.length := by omega
      subst ei
      rw [List.drop_length] at q2
      exact .inl ⟨wk.stop H2 G2 ⟨s2, R2.sub⟩, q2 σ2 H2 G2 Sub.refl R2⟩
/-! ### sources -/
def fSeqI (f : FE) : FI := fun env μ => (f env μ).bind fun x μ => match x with
  | .val (.tup ds) => .ok ds μ
  | _ => .bad
def fLstI (f : FE) : FI := fun env μ => (f env μ).bind fun x μ => match x with
  | .val (.lst ds) => .ok ds μ
  | .val (.frz ds) => .ok ds μ
  | _ => .bad
theorem walkD_list {G1 : Hp} {a : Addr} {vs : List V} {ds : List D} (h : SqL c.K G1 a vs) (d : Dats c.K G1 c.L vs ds) : WalkD c (fun H G => Sub G1 G ∧ Sub G H) (Itl c.K a) ds where
  go := fun i H G hi ⟨s, s2⟩ => by
    obtain ⟨v, h1, _⟩ := d.get (i := i) (d := ds[i]) (List.getElem?_eq_getElem hi)
    exact ⟨vs, v, s2.sqL (s.sqL h), h1⟩
  stop := fun H G ⟨s, s2⟩ => ⟨vs, s2.sqL (s.sqL h), by rw [d.length]; exact Nat.le_refl _⟩
  yld := fun i H G x H' hi ⟨s, s2⟩ s3 ⟨e, y⟩ => by
    subst e
    obtain ⟨v, h1, h2⟩ := d.get (i := i) (d := ds[i]) (List.getElem?_eq_getElem hi)
    have hx := y vs (s2.sqL (s.sqL h))
    rw [h1] at hx
    cases hx
    exact ⟨G, Sub.refl, Sub.refl, s3, fun _ _ z => .inl z, ds[i], List.getElem?_eq_getElem hi, h2.up s⟩
theorem walkD_tup {G1 : Hp} {a : Addr} {vs : List V} {ds : List D} (h : SqT c.K G1 a vs) (d : Dats c.K G1 c.L vs ds) : WalkD c (fun H G => Sub G1 G ∧ Sub G H) (Itt c.K a) ds where
  go := fun i H G hi ⟨s, s2⟩ => by
    obtain ⟨v, h1, _⟩ := d.get (i := i) (d := ds[i]) (List.getElem?_eq_getElem hi)
    exact ⟨vs, v, s2.sqT (s.sqT h), h1⟩
  stop := fun H G ⟨s, s2⟩ => ⟨vs, s2.sqT (s.sqT h), by rw [d.length]; exact Nat.le_refl _⟩
  yld := fun i H G x H' hi ⟨s, s2⟩ s3 ⟨e, y⟩ => by
    subst e
    obtain ⟨v, h1, h2⟩ := d.get (i := i) (d := ds[i]) (List.getElem?_eq_getElem hi)
    have hx := y vs (s2.sqT (s.sqT h))
    rw [h1] at hx
    cases hx
    exact ⟨G, Sub.refl, Sub.refl, s3, fun _ _ z => .inl z, ds[i], List.getElem?_eq_getElem hi, h2.up s⟩
def rangeD (lo : Int) : Nat → List D
  | 0 => []
  | n + 1 => .int lo :: rangeD (lo + 1) n
theorem rangeD_len : ∀ (n : Nat) (lo : Int), (rangeD lo n).length = n
  | 0, _ => rfl
  | n + 1, lo => congrArg (· + 1) (rangeD_len n (lo + 1))
theorem rangeD_get : ∀ (n : Nat) (lo : Int) (i : Nat), i < n → (rangeD lo n)[i]? = some (.int (lo + i))
  | n + 1, lo, 0, _ => by simp [rangeD]
  | n + 1, lo, i + 1, h => by
    have := rangeD_get n (lo + 1) i (by omega)
    show (rangeD (lo + 1) n)[i]? = _
    rw [this]
    congr 2
    omega
theorem walkD_range {Gd : Hp → Hp → Prop} {lo : Int} {n : Nat} : WalkD c Gd (Itr lo n) (rangeD lo n) where
  go := fun i H G hi _ => by rw [rangeD_len] at hi; exact hi
  stop := fun H G _ => by rw [rangeD_len]; exact Nat.le_refl n
  yld := fun i H G x H' hi _ s3 ⟨e, y⟩ => by
    subst e
    subst y
    rw [rangeD_len] at hi
    exact ⟨G, Sub.refl, Sub.refl, s3, fun _ _ z => .inl z, _, rangeD_get n lo i hi, .int _⟩
theorem di_tup {tg e : Expr} {f : FE} (he : DE X c W e f) (hk : X.K = c.K := by rfl) : DI X c W tg e (fSeqI f) := PI.of (pi_tup he) fun σ H Q q => by
  obtain ⟨G, env, μ, R, q⟩ := q
  refine ⟨G, env, μ, R, (iG.bind q).imp (fun _ _ _ _ h => h) ?_⟩
  rintro v H1 ⟨G1, μ1, x, x1, R1, d1, q1⟩
  split at q1
  · cases d1 with
    | tup s t =>
      rename_i a vs
      exact ⟨a, rfl, ⟨vs, hk ▸ R1.sub.sqT s⟩, q1.now R1 (hk ▸ walkD_tup s t)⟩
  · exact q1.elim
theorem di_lst {tg e : Expr} {f : FE} (he : DE X c W e f) (hk : X.K = c.K := by rfl) : DI X c W tg e (fLstI f) := PI.of (pi_list he) fun σ H Q q => by
  obtain ⟨G, env, μ, R, q⟩ := q
  refine ⟨G, env, μ, R, (iG.bind q).imp (fun _ _ _ _ h => h) ?_⟩
  rintro v H1 ⟨G1, μ1, x, x1, R1, d1, q1⟩
  split at q1
  · cases d1 with
    | lst s t =>
      rename_i a vs
      exact ⟨a, rfl, ⟨vs, SqL.of (R1.sub _ _ s)⟩, q1.now R1 (hk ▸ walkD_list (SqL.of s) t)⟩
  · cases d1 with
    | frz s t =>
      rename_i a vs
      exact ⟨a, rfl, ⟨vs, hk ▸ R1.sub.sqL s⟩, q1.now R1 (hk ▸ walkD_list s t)⟩
  · exact q1.elim
/-- range(n), range(a, b) -/
def rngOk (j : Int) : Bool := decide (j.natAbs ≤ 1073741824)
theorem rng_fit {j : Int} (h : rngOk j = true) : -(2 ^ 62) ≤ j ∧ j < 2 ^ 62 := by
  have q : j.natAbs ≤ 1073741824 := of_decide_eq_true h
  omega
def fRng1 (f : FE) : FI := fun env μ => (f env μ).bind fun x μ => match x with
  | .val (.int j) => if rngOk j then .ok (rangeD 0 j.toNat) μ else .bad
  | _ => .bad
def fRng2 (f g : FE) : FI := fun env μ => (f env μ).bind fun x μ => (g env μ).bind fun y μ => match x, y with
  | .val (.int i), .val (.int j) => if rngOk i && rngOk j then .ok (rangeD i (j - i).toNat) μ else .bad
  | _, _ => .bad
theorem di_rng1 {tg a : Expr} {f : FE} {p pos : Pos} (hm : X.mg "range" = none) (ha : DE X c W a f) (hgl : Gl X "range" := by rfl) (hs : starEach [a] X.env = [(false, eval a X.env)] := by rfl) (hs' : starEach [a] X.env = (false, eval a X.env) :: starEach [] X.env := by rfl) : DI X c W tg (.Call (.Name "range" p) [a] [] pos) (fRng1 f) := PI.of (pi_range1 hgl hm (pa_cons ha pa_nil hs') hs) fun σ H Q q => by
  obtain ⟨G, env, μ, R, q⟩ := q
  refine ⟨G, env, μ, R, (iG.bind q).imp (fun _ _ _ _ h => h) ?_⟩
  rintro v H1 ⟨G1, μ1, x, x1, R1, d1, q1⟩
  split at q1
  · rename_i j
    cases d1
    split at q1
    · rename_i hr
      have hr := rng_fit hr
      exact ⟨j, rfl, hr.1, hr.2, q1.now R1 walkD_range⟩
    · exact q1.elim
  · exact q1.elim
theorem di_rng2 {tg a b : Expr} {f g : FE} {p pos : Pos} (hm : X.mg "range" = none) (ha : DE X c W a f) (hb : DE X c W b g) (hgl : Gl X "range" := by rfl) (hs : starEach [a, b] X.env = [(false, eval a X.env), (false, eval b X.env)] := by rfl) (hs2 : starEach [b] X.env = [(false, eval b X.env)] := by rfl)
    (hs' : starEach [a, b] X.env = (false, eval a X.env) :: starEach [b] X.env := by rfl) (hs2' : starEach [b] X.env = (false, eval b X.env) :: starEach [] X.env := by rfl) : DI X c W tg (.Call (.Name "range" p) [a, b] [] pos) (fRng2 f g) := PI.of (pi_range2 hgl hm (pa_cons ha (pa_cons hb pa_nil hs2') hs') hs hs2) fun σ H Q q => by
  obtain ⟨G, env, μ, R, q⟩ := q
  refine ⟨G, env, μ, R, (iG.bind q).imp (fun _ _ _ _ h => h) ?_⟩
  rintro v H1 ⟨G1, μ1, x, x1, R1, d1, q1⟩
  refine ⟨G1, env, μ1, R1, (iG.bind q1).imp (fun _ _ _ _ h => h) ?_⟩
  rintro w H2 ⟨G2, μ2, y, x2, R2, d2, q2⟩
  split at q2
  · rename_i i j
    cases d1
    cases d2
    split at q2
    · rename_i hr
      have h1 := rng_fit (Bool.and_eq_true_iff.mp hr).1
      have h2 := rng_fit (Bool.and_eq_true_iff.mp hr).2
      exact ⟨i, j, rfl, ⟨h1.1, h1.2, h2.1, h2.2⟩, q2.now R2 walkD_range⟩
    · exact q2.elim
  · exact q2.elim
end
end Q

set_option Elab.async false
set_option linter.all false
set_option maxRecDepth 100000
set_option maxHeartbeats 4000000
/-! QI: comprehensions of the pure layer. -/
namespace Q
open PySem PySem.Spec PyProof.Rows L2
def wipeE (env : En) : List Nat → En
  | [] => env
  | v :: vs => (wipeE env vs).set v .un
def Res.nx {α : Type} : Res α → Res α
  | .exc _ _ => .bad
  | r => r
def W0 : WX := fun _ _ _ _ => False
def lcLoop (t : Tg) (ft : FT) (fe : FE) (env : En) : List D → Mu → List D → Res (List D)
  | [], μ, acc => .ok acc μ
  | d :: ds, μ, acc => match t.bind d env with
    | none => .bad
    | some env' => (ft env' μ).nx.bind fun b μ => if b then (fe env' μ).nx.bind fun x μ => match x with
        | .val e => lcLoop t ft fe env ds μ (acc ++ [e])
        | _ => .bad
      else lcLoop t ft fe env ds μ acc
/-- [elt for target in iter if test]; vs: the slots of its own names -/
def fLc (fi : FI) (t : Tg) (ft : FT) (fe : FE) (vs : List Nat) : FE := fun env μ => (fi env μ).bind fun ds μ => if ds.length ≤ LIM then (lcLoop t ft fe (wipeE env vs) ds μ []).bind fun l μ => .ok (.val (.lst l)) μ else .bad
def fYes : FT := fun _ μ => .ok true μ
section
variable {X : Cx} {c : Fx} {W : WX}
theorem FRel.unset {σ : Sl} {H G : Hp} {env : En} {μ : Mu} (R : FRel c σ H G env μ) (v : Nat) : FRel c (σ.set v none) H G (env.set v .un) μ := by
  have sl : ∀ (i : Nat) (e : EV), (env.set v .un)[i]? = some e → e ≠ .un → env[i]? = some e ∧ (σ.set v none)[i]? = σ[i]? := fun i e h ne => by
    rcases set_get h with ⟨_, q, _⟩ | ⟨n, q⟩
    · exact absurd q ne
    · exact ⟨q, List.getElem?_set_ne (Ne.symm n)⟩
  refine ⟨R.toRRel, fun i d e => ?_, fun i ds e => ?_, fun i j ds es a h1 h2 h3 h4 => ?_, by rw [List.length_set, List.length_set]; exact R.el⟩
  · obtain ⟨q1, q2⟩ := sl i _ e (fun z => nomatch z)
    rw [q2]; exact R.val i d q1
  · obtain ⟨q1, q2⟩ := sl i _ e (fun z => nomatch z)
    rw [q2]; exact R.own i ds q1
  · obtain ⟨q1, q2⟩ := sl i _ h1 (fun z => nomatch z)
    obtain ⟨q3, q4⟩ := sl j _ h2 (fun z => nomatch z)
    rw [q2] at h3
    rw [q4] at h4
    exact R.inj i j ds es a q1 q3 h3 h4
theorem FRel.wiped {σ : Sl} {H G : Hp} {env : En} {μ : Mu} (R : FRel c σ H G env μ) : ∀ vs : List Nat, FRel c (wipe σ vs) H G (wipeE env vs) μ
  | [] => R
  | v :: vs => (FRel.wiped R vs).unset v
/-- behind a call, a block: this frame's slots by what they were -/
theorem FRel.back {σ : Sl} {H G H' G' : Hp} {env : En} {μ μ' : Mu} (R : FRel c σ H G env μ) (x : Ext c.L H G H' G') (r : RRel c H' G' μ') : FRel c σ H' G' env μ' := by
  refine ⟨r, fun i d e => ?_, fun i ds e => ?_, R.inj, R.el⟩
  · obtain ⟨v, h1, h2⟩ := R.val i d e
    exact ⟨v, h1, h2.up x.gg⟩
  · obtain ⟨a, vs, h1, h2, h3, h4, h5, h6⟩ := R.own i ds e
    refine ⟨a, vs, h1, x.keep _ _ h2 h4, ?_, h4, h5, h6.up x.gg⟩
    cases q : G' a with
    | none => rfl
    | some o =>
      rcases x.newG a o q with z | ⟨z, _⟩
      · rw [h3] at z; cases z
      · rw [h2] at z; cases z
/-- an object that nothing else knows of is written -/
theorem RRel.updD {H G : Hp} {μ : Mu} (R : RRel c H G μ) {d : Addr} {o : HO} (h1 : G d = none) (h2 : d ∉ c.L) (h3 : c.H0 d = none) : RRel c (upd H d o) G μ := by
  refine ⟨fun b u e => ?_, R.nd, R.len, fun n a ds e1 e2 => ?_, fun b u e n => ?_, R.gg, R.newG⟩
  · rw [upd_ne fun z => by rw [z, h1] at e; cases e]
    exact R.sub b u e
  · obtain ⟨g, vs, q, r⟩ := R.loc n a ds e1 e2
    have ne : a ≠ d := fun z => h2 (by rw [← z]; exact List.mem_of_getElem? e1)
    exact ⟨g, vs, by rw [upd_ne ne]; exact q, r⟩
  · rw [upd_ne fun z => by rw [z, h3] at e; cases e]
    exact R.keep b u e n
theorem wipe_at {σ : Sl} {vs : List Nat} {j : Nat} (h : j ∈ vs) (hl : j < σ.length) : (wipe σ vs)[j]? = some none := by
  induction vs with
  | nil => cases h
  | cons v vs ih =>
    show ((wipe σ vs).set v none)[j]? = some none
    by_cases e : j = v
    · rw [e, List.getElem?_set_self (by rw [wipe_length]; rw [← e]; exact hl)]
    · rw [List.getElem?_set_ne (Ne.symm e)]
      rcases List.mem_cons.mp h with z | z
      · exact absurd z e
      · exact ih z
theorem wipe_off {σ σ2 : Sl} {vs sl : List Nat} (o : Off sl (wipe σ vs) σ2) (hs : ∀ j ∈ sl, j ∈ vs) : wipe σ2 vs = wipe σ vs := by
  have hl : σ2.length = σ.length := by rw [o.1, wipe_length]
  apply List.ext_getElem?
  intro j
  by_cases h : j ∈ vs
  · by_cases hj : j < σ.length
    · rw [wipe_at h hj, wipe_at h (by rw [hl]; exact hj)]
    · rw [List.getElem?_eq_none (by rw [wipe_length]; omega), List.getElem?_eq_none (by rw [wipe_length]; omega)]
  · rw [wipe_out h, o.2 j (fun z => h (hs j z)), ← wipe_out h, wipe_out h]
/-- .. where the source may be this frame's own list -/
def iGc (c : Fx) (W : WX) (vs : List Nat) (σ : Sl) (H G : Hp) (env : En) (r : Res (List D)) (R : It → Hp → Prop) : Prop := match r with
  | .ok ds μ' => ∀ J H' G' Gd, Ext c.L H G H' G' → FRel c σ H' G' env μ' → WalkD c Gd J ds → (∀ Hx Gx μx, FRel c (wipe σ vs) Hx Gx (wipeE env vs) μx → Ext c.L H' G' Hx Gx → Gd Hx Gx) → R J H'
  | .exc e μ' => ∀ cls d H' G', Ext c.L H G H' G' → FRel c σ H' G' env μ' → XDat c H' G' cls d e → W cls d σ H'
  | .bad => False
def tIc (c : Fx) (W : WX) (vs : List Nat) (f : FI) : TI := fun σ H R => ∃ G env μ, FRel c σ H G env μ ∧ iGc c W vs σ H G env (f env μ) R
abbrev DIc (X : Cx) (c : Fx) (W : WX) (vs : List Nat) (tg iter : Expr) (f : FI) : Prop := PI X tg iter (tIc c W vs f)
theorem di_c {vs : List Nat} {tg iter : Expr} {f : FI} (h : DI X c W tg iter f) : DIc X c W vs tg iter f := PI.of h fun σ H Q q => by
  obtain ⟨G, env, μ, R, q⟩ := q
  refine ⟨G, env, μ, R, ?_⟩
  revert q
  cases f env μ with
  | ok ds μ' => exact fun q J H' G' x F wk => q J H' G' _ x F wk fun Hx Gx μx Fx xx => ⟨xx.gg, Fx.sub⟩
  | exc e μ' => exact id
  | bad => exact id
def fOwnI (i : Nat) : FI := fun env μ => match env[i]? with
  | some (.own ds) => .ok ds μ
  | some (.val (.lst ds)) => .ok ds μ
  | _ => .bad
theorem wipeE_out {env : En} {i : Nat} : ∀ {vs : List Nat}, i ∉ vs → (wipeE env vs)[i]? = env[i]?
  | [], _ => rfl
  | v :: vs, h => by
    show ((wipeE env vs).set v .un)[i]? = _
    rw [List.getElem?_set_ne fun z => h (by rw [z]; exact List.mem_cons_self)]
    exact wipeE_out fun z => h (List.mem_cons_of_mem _ z)
theorem dic_own {vs : List Nat} {tg : Expr} (i : Nat) {x : Str} {pos : Pos} (hiv : i ∉ vs := by decide) (hN : X.N[i]? = some x := by rfl) (hv : Vis X.env.scope x := by first | exact Or.inl rfl | exact Or.inr (Or.inl rfl) | exact Or.inr (Or.inr rfl)) (hd : (x == ("__debug__" : Str)) = false := by decide) (hcd : (x == ("__classdict__" : Str)) = false := by decide) (hk : X.K = c.K := by rfl) :
    DIc X c W vs tg (.Name x pos) (fOwnI i) := PI.of (pi_list (pe_var hN hv hd hcd)) fun σ H Q q => by
  obtain ⟨G, env, μ, R, q⟩ := q
  unfold fOwnI at q
  split at q
  · rename_i ds e
    obtain ⟨a, us, h1, h2, h3, h4, h5, h6⟩ := R.own i ds e
    refine ⟨_, h1, a, rfl, ⟨us, SqL.of h2⟩, q _ H G (fun H G => ∃ us, H a = some (.lst us) ∧ Dats c.K G c.L us ds) Ext.refl R ⟨?_, ?_, ?_⟩ ?_⟩
    · rintro j H2 G2 hj ⟨us, z1, z2⟩
      obtain ⟨v, h1, _⟩ := z2.get (i := j) (d := ds[j]) (List.getElem?_eq_getElem hj)
      exact ⟨us, v, SqL.of z1, h1⟩
    · rintro H2 G2 ⟨us, z1, z2⟩
      exact ⟨us, SqL.of z1, by rw [z2.length]; exact Nat.le_refl _⟩
    · rintro j H2 G2 y H3 hj ⟨us, z1, z2⟩ s ⟨e, w⟩
      subst e
      obtain ⟨v, q1, q2⟩ := z2.get (i := j) (d := ds[j]) (List.getElem?_eq_getElem hj)
      have hx := w us (SqL.of z1)
      rw [q1] at hx
      cases hx
      exact ⟨G2, Sub.refl, Sub.refl, s, fun _ _ z => .inl z, ds[j], List.getElem?_eq_getElem hj, q2⟩
    · intro Hx Gx μx F _
      have e2 : (wipeE env vs)[i]? = some (.own ds) := by rw [wipeE_out hiv]; exact e
      obtain ⟨b, us, z1, z2, _, _, _, z6⟩ := F.own i ds e2
      rw [wipe_out hiv, h1] at z1
      have hb : a = b := by injection z1 with z1; injection z1 with z1; injection z1
      subst hb
      exact ⟨us, z2, z6⟩
  · rename_i ds e
    obtain ⟨v, h1, h2⟩ := R.val i _ e
    cases h2 with
    | lst s t =>
      rename_i a us
      exact ⟨_, h1, a, rfl, ⟨us, SqL.of (R.sub _ _ s)⟩, q _ H G _ Ext.refl R (hk ▸ walkD_list (SqL.of s) t) fun Hx Gx μx Fx xx => ⟨xx.gg, Fx.sub⟩⟩
  · exact q.elim
theorem RF.eq {H H' G' : Hp} {v : V} {d : RV} (h : RF c H H' G' v d) : True := trivial
theorem lc_run {fi : FI} {t : Tg} {ft : FT} {fe : FE} {vs : List Nat} (hsl : ∀ j ∈ t.slots, j ∈ vs) {σ : Sl} {H : Hp} {Q : VK} (q : tN c W (fLc fi t ft fe vs) σ H Q) : tLc (tIc c W vs fi) (tGt c t) (tT c W0 ft) (tE c W0 fe) vs σ H Q := by
  obtain ⟨G, env, μ, R, q⟩ := q
  refine ⟨G, env, μ, R, ?_⟩
  unfold fLc at q
  cases e : fi env μ with
  | bad => rw [e] at q; exact q
  | exc x μ' => rw [e] at q; exact q
  | ok ds μ1 =>
    rw [e] at q
    have q : tG c W σ H G env (RF c H) (if ds.length ≤ LIM then (lcLoop t ft fe (wipeE env vs) ds μ1 []).bind fun l μ => .ok (.val (.lst l)) μ else .bad) Q := q
    by_cases hds : ds.length ≤ LIM
    · rw [if_pos hds] at q
      intro J H1 G1 Gd x1 R1 wk hGd D hD
      have q := tG.shift x1 q
      have fD := R1.toRRel.fresh hD
      have Rw : FRel c (wipe σ vs) H1 G1 (wipeE env vs) μ1 := R1.wiped vs
      obtain ⟨R2, x2⟩ := Rw.newH (o := .lst []) hD
      refine ⟨fun i m H2 => m = ds.length - i ∧ i ≤ ds.length ∧ ∃ G2 μ2 acc accV, FRel c (wipe σ vs) H2 G2 (wipeE env vs) μ2 ∧ Ext c.L H1 G1 H2 G2 ∧ H2 D = some (.lst accV) ∧ G2 D = none ∧ Dats c.K G2 c.L accV acc ∧ acc.length ≤ i ∧
        tG c W σ H1 G1 env (RF c H) ((lcLoop t ft fe (wipeE env vs) (ds.drop i) μ2 acc).bind fun l μ => .ok (.val (.lst l)) μ) Q,
        ⟨ds.length, by omega, Nat.zero_le _, G1, μ1, [], [], R2, x2, upd_same, fD.2.2, .nil, Nat.le_refl _, by rw [List.drop_zero]; exact q⟩, ?_⟩
      rintro i m H2 ⟨rfl, hi, G2, μ2, acc, accV, F2, y2, hD2, gD2, dacc, hacc, q2⟩
      have gd := hGd H2 G2 μ2 F2 y2
      by_cases hlt : i < ds.length
      · refine .inr ⟨wk.go i H2 G2 hlt gd, fun H2 => ∃ G2 μ2 acc accV, FRel c (wipe σ vs) H2 G2 (wipeE env vs) μ2 ∧ Ext c.L H1 G1 H2 G2 ∧ H2 D = some (.lst accV) ∧ G2 D = none ∧ Dats c.K G2 c.L accV acc ∧ acc.length ≤ i + 1 ∧
          tG c W σ H1 G1 env (RF c H) ((lcLoop t ft fe (wipeE env vs) (ds.drop (i + 1)) μ2 acc).bind fun l μ => .ok (.val (.lst l)) μ) Q, fun H' h => ⟨ds.length - (i + 1), by omega, rfl, hlt, h⟩, fun x H3 y => ?_⟩
        obtain ⟨G3, hh, gg, sub, new, d, ed, dd⟩ := wk.yld i H2 G2 x H3 hlt gd F2.sub y
        obtain ⟨F3, x3⟩ := F2.grow hh gg sub new
        rw [drop_at ed] at q2
        simp only [lcLoop] at q2
        cases eb : t.bind d (wipeE env vs) with
        | none => rw [eb] at q2; exact q2.elim
        | some env' =>
          rw [eb] at q2
          dsimp only at q2
          refine ⟨G3, wipeE env vs, μ2, d, env', F3, dd, eb, fun σ4 F4 off => ⟨wipe_off off hsl, ?_⟩⟩
          refine ⟨G3, env', μ2, F4, ?_⟩
          have hD3 : H3 D = some (.lst accV) := hh _ _ hD2
          cases et : ft env' μ2 with
          | bad => rw [et] at q2; exact q2.elim
          | exc z m => rw [et] at q2; exact q2.elim
          | ok b μ3 =>
            rw [et] at q2
            dsimp only [Res.nx, Res.bind] at q2
            intro b' H5 G5 x5 F5 eb'
            have eb'' : b' = b := eb'
            subst eb''
            have hD5 : H5 D = some (.lst accV) := x5.keep _ _ hD3 fD.2.1
            have x25 : Ext c.L H2 G2 H5 G5 := x3.trans x5
            cases b' with
            | false =>
              refine (if_neg Bool.false_ne_true).mpr ?_
              rw [if_neg Bool.false_ne_true] at q2
              have y5 := y2.trans x25
              refine ⟨G5, μ3, acc, accV, Rw.back y5 F5.toRRel, y5, hD5, ?_, dacc.up x25.gg, Nat.le_succ_of_le hacc, q2⟩
              cases w : G5 D with
              | none => rfl
              | some o =>
                rcases x25.newG D o w with z | ⟨z, _⟩
                · rw [gD2] at z; cases z
                · rw [hD2] at z; cases z
            | true =>
              refine (if_pos rfl).mpr ?_
              rw [if_pos rfl] at q2
              refine ⟨G5, env', μ3, F5, ?_⟩
              cases ee : fe env' μ3 with
              | bad => rw [ee] at q2; exact q2.elim
              | exc z m => rw [ee] at q2; exact q2.elim
              | ok rv μ4 =>
                rw [ee] at q2
                dsimp only [Res.nx, Res.bind] at q2
                intro yv H6 G6 x6 F6 dy
                cases rv with
                | own j => exact q2.elim
                | val e =>
                  dsimp only at q2
                  have x26 : Ext c.L H2 G2 H6 G6 := x25.trans x6
                  have hD6 : H6 D = some (.lst accV) := x6.keep _ _ hD5 fD.2.1
                  have gD6 : G6 D = none := by
                    cases w : G6 D with
                    | none => rfl
                    | some o =>
                      rcases x26.newG D o w with z | ⟨z, _⟩
                      · rw [gD2] at z; cases z
                      · rw [hD2] at z; cases z
                  have hlen : accV.length < sizeLine := by rw [dacc.length, ← LIM_eq]; omega
                  refine ⟨accV, hD6, hlen, G6, μ4, acc ++ [e], accV ++ [yv], ?_, ?_, upd_same, gD6, (dacc.up x26.gg).append (.cons dy .nil), by rw [List.length_append, List.length_singleton]; omega, q2⟩
                  · have y6 : Ext c.L H1 G1 (upd H6 D (.lst (accV ++ [yv]))) G6 := ⟨fun b o h n => by
                      rw [upd_ne fun z => by rw [z, hD] at h; cases h]
                      exact (y2.trans x26).keep b o h n, (y2.trans x26).gg, (y2.trans x26).newG⟩
                    exact Rw.back y6 (F6.toRRel.updD gD6 fD.2.1 fD.1)
                  · exact ⟨fun b o h n => by
                      rw [upd_ne fun z => by rw [z, hD] at h; cases h]
                      exact (y2.trans x26).keep b o h n, (y2.trans x26).gg, (y2.trans x26).newG⟩
      · have ei : i = ds.length := by omega
        subst ei
        rw [List.drop_length] at q2
        refine .inl ⟨wk.stop H2 G2 gd, ?_⟩
        refine q2.now y2 (R1.back y2 F2.toRRel) ⟨D, accV, acc, rfl, rfl, hD2, gD2, fD.2.1, ?_, dacc⟩
        cases w : H D with
        | none => rfl
        | some u => rw [x1.keep D u w fD.2.1] at hD; cases hD
    · rw [if_neg hds] at q; exact q.elim
theorem dn_lc {elt tg iter : Expr} {ifs : List Expr} {scope : Scope} {own : List (Str × Nat)} {pos : Pos} {fi : FI} {t : Tg} {ft : FT} {fe : FE} {vs : List Nat} (hc : X.calm = true) (hN : X.N.Nodup) (hi : DIc X c W vs tg iter fi) (ok : BlkOk X.N X.env.scope scope own)
    (hg : ∀ (s : Shared) (H : Hp) (C : Addr) (cl : List (Str × Addr)) (fp : List Addr), DG (X.blk s H scope (compEnvC scope cl C X.env) fp) c tg t) (ht : ∀ (s : Shared) (H : Hp) (C : Addr) (cl : List (Str × Addr)) (fp : List Addr), PTs (X.blk s H scope (compEnvC scope cl C X.env) fp) ifs (tT c W0 ft))
    (he : ∀ (s : Shared) (H : Hp) (C : Addr) (cl : List (Str × Addr)) (fp : List Addr), DE (X.blk s H scope (compEnvC scope cl C X.env) fp) c W0 elt fe) (hvs : own.map (·.2) = vs := by rfl) (hsl : ∀ j ∈ t.slots, j ∈ vs := by decide) (hs : ∀ x, foldedSetIterable iter X.env x = pure x := by intro _; rfl) :
    DN X c W (.ListComp elt [⟨tg, iter, ifs, 0⟩] scope pos) (fLc fi t ft fe vs) := by
  subst hvs
  exact PE.of (pe_lc hc hN hi ok hg ht he hs) fun σ H Q q => lc_run hsl q
theorem dts_nil : PTs X [] (tT c W fYes) := ⟨fun pins s σ H Q I q => by
  obtain ⟨G, env, μ, R, q⟩ := q
  exact pts_nil.run pins s σ H Q I (q.now Ext.refl R rfl)⟩
theorem dts_one {e : Expr} {f : FT} (h : DT X c W e f) : PTs X [e] (tT c W f) := pts_one h
/-- name = [..] on one line -/
theorem ds_setLc {i : Nat} {y : Str} {py : Pos} {elt tg iter : Expr} {ifs : List Expr} {scope : Scope} {own : List (Str × Nat)} {pos spos : Pos} {fi : FI} {t : Tg} {ft : FT} {fe : FE} {vs : List Nat} (fz : Bool) (hc : X.calm = true) (hN : X.N.Nodup)
    (hsw : swapsWith (.ListComp elt [⟨tg, iter, ifs, 0⟩] scope pos) (some (.Name y py)) spos.line X.env = pure true) (hi : DIc X c W vs tg iter fi) (ok : BlkOk X.N X.env.scope scope own)
    (hg : ∀ (s : Shared) (H : Hp) (C : Addr) (cl : List (Str × Addr)) (fp : List Addr), DG (X.blk s H scope (compEnvC scope cl C X.env) fp) c tg t) (ht : ∀ (s : Shared) (H : Hp) (C : Addr) (cl : List (Str × Addr)) (fp : List Addr), PTs (X.blk s H scope (compEnvC scope cl C X.env) fp) ifs (tT c W0 ft))
    (he : ∀ (s : Shared) (H : Hp) (C : Addr) (cl : List (Str × Addr)) (fp : List Addr), DE (X.blk s H scope (compEnvC scope cl C X.env) fp) c W0 elt fe) (hy : X.N[i]? = some y := by rfl) (hyl : X.env.scope.names.lookup y = some .local := by rfl) (hvs : own.map (·.2) = vs := by rfl) (hsl : ∀ j ∈ t.slots, j ∈ vs := by decide) (hs : ∀ x, foldedSetIterable iter X.env x = pure x := by intro _; rfl) :
    DS X c W (.Assign [.Name y py] (.ListComp elt [⟨tg, iter, ifs, 0⟩] scope pos) spos) (fSet i (if fz then fMv (fLc fi t ft fe vs) else fMo (fLc fi t ft fe vs))) := by
  subst hvs
  refine PS.ofI (ps_setLc hc hN hy hyl hsw hi ok hg ht he hs) fun D σ H hl q => ?_
  have hi' : i < σ.length := by rw [hl]; exact (List.getElem?_eq_some_iff.mp hy).1
  refine lc_run (W := W) hsl ?_
  obtain ⟨G, env, μ, R, q⟩ := q
  refine ⟨G, env, μ, R, ?_⟩
  cases fz with
  | false =>
    have q : sG c W G ((fMo (fLc fi t ft fe (own.map (·.2))) env μ).to env fun d μ => .nxt (env.set i d) μ) D := q
    unfold fMo at q
    cases e : fLc fi t ft fe (own.map (·.2)) env μ with
    | bad => rw [e] at q; exact q
    | exc z m => rw [e] at q; exact fun cls d H' G' x F xd => q σ H' G' cls d x.gg F xd
    | ok rv m =>
      rw [e] at q
      rintro v H1 G1 x1 R1 ⟨a, us, ds, e1, e2, z1, z2, z3, z4, z5⟩
      subst e1 e2
      exact q _ _ _ x1.gg (R.store (d := .own ds) R1 ⟨a, us, rfl, z1, z2, z3, z4, z5⟩ i hi')
  | true =>
    have q : sG c W G ((fMv (fLc fi t ft fe (own.map (·.2))) env μ).to env fun d μ => .nxt (env.set i d) μ) D := q
    unfold fMv at q
    cases e : fLc fi t ft fe (own.map (·.2)) env μ with
    | bad => rw [e] at q; exact q
    | exc z m => rw [e] at q; exact fun cls d H' G' x F xd => q σ H' G' cls d x.gg F xd
    | ok rv m =>
      rw [e] at q
      rintro v H1 G1 x1 R1 ⟨a, us, ds, e1, e2, z1, z2, z3, z4, z5⟩
      subst e1 e2
      have g : Sub G1 (upd G1 a (.lst us)) := sub_upd z2
      have F2 := R.freezeF R1 z1 z2 z3 z4
      exact q _ _ _ (x1.gg.trans g) (F2.store (H' := H1) (G' := upd G1 a (.lst us)) (d := .val (.lst ds)) F2 (Dat.lst upd_same (z5.up g)) i hi')
end
end Q

set_option Elab.async false
set_option linter.all false
set_option maxRecDepth 100000
set_option maxHeartbeats 4000000
/-! QJ: defs and their calls, raise, try. -/
namespace Q
open PySem PySem.Spec PyProof.Rows L2
abbrev RunF := List D → Mu → Res EV
/-- what is wanted of a def's result -/
def rG (c : Fx) (r : Res EV) (Q : VK) (E : XK) : Prop := match r with
  | .ok d μ => ∀ v H G, RRel c H G μ → RM c c.H0 H G v d → Q v H
  | .exc e μ => ∀ cls dd H G, RRel c H G μ → XDat c H G cls dd e → E cls dd H
  | .bad => False
/-- a def's promise by a function of data -/
def spD (K : PySem.W.Frag) (C : Nat → Addr) (n : Nat) (run : RunF) : Sp := fun vs H Q E => vs.length = n ∧ ∃ G L ds μ, RRel ⟨K, L, H, G, C⟩ H G μ ∧ Dats K G L vs ds ∧ rG ⟨K, L, H, G, C⟩ (run ds μ) Q E
def envOf (n : Nat) (ds : List D) : En := ds.map .val ++ List.replicate (n - ds.length) .un
/-- a body's function, n names, as one of its arguments -/
def runOf (n : Nat) (fb : FS) : RunF := fun ds μ => match fb (envOf n ds) μ with
  | .ret d μ => .ok d μ
  | .nxt _ μ => .ok (.val .non) μ
  | .exc e _ μ => .exc e μ
  | _ => .bad
section
variable {X : Cx} {c : Fx} {W : WX}
theorem env_val {n : Nat} {ds : List D} {i : Nat} {e : EV} (h : (envOf n ds)[i]? = some e) : (∃ d, e = .val d ∧ ds[i]? = some d) ∨ e = .un := by
  unfold envOf at h
  by_cases hi : i < ds.length
  · rw [List.getElem?_append_left (by rw [List.length_map]; exact hi), List.getElem?_map, List.getElem?_eq_getElem hi] at h
    cases h
    exact .inl ⟨_, rfl, List.getElem?_eq_getElem hi⟩
  · rw [List.getElem?_append_right (by rw [List.length_map]; omega)] at h
    exact .inr (List.eq_of_mem_replicate (List.mem_of_getElem? h))
theorem start_rel {N : List Str} {H G : Hp} {μ : Mu} {vs : List V} {ds : List D} (R : RRel c H G μ) (d : Dats c.K G c.L vs ds) : FRel c (start N vs) H G (envOf N.length ds) μ := by
  refine ⟨R, fun i e h => ?_, fun i es h => ?_, fun i j es fs a h1 h2 h3 h4 => ?_, ?_⟩
  · rcases env_val h with ⟨d', e1, e2⟩ | e1
    · cases e1
      obtain ⟨v, q1, q2⟩ := d.get e2
      refine ⟨v, ?_, q2⟩
      have hi := (List.getElem?_eq_some_iff.mp q1).1
      show (vs.map some ++ _)[i]? = _
      rw [List.getElem?_append_left (by rw [List.length_map]; exact hi), List.getElem?_map, q1]
      rfl
    · cases e1
  · rcases env_val h with ⟨d', e1, e2⟩ | e1 <;> cases e1
  · rcases env_val h1 with ⟨d', e1, e2⟩ | e1 <;> cases e1
  · show (ds.map EV.val ++ _).length = (vs.map some ++ _).length
    rw [List.length_append, List.length_append, List.length_map, List.length_map, List.length_replicate, List.length_replicate, d.length]
/-- THE RULE for a def -/
theorem fn_ok {P : Program} {w : World} {K : PySem.W.Frag} {mg : Str → Option Value} {base : Heap} {C : Nat → Addr} {x qual : Str} {st : Stmt} {f : Addr} {fd : FuncData} {N ps : List Str} {k : Nat} {fb : FS} (F : Fun K x qual st f fd) (S : FnScope N ps (defScope st))
    (hb : ∀ (cdv : Value) (A : Around) (outer : List Env) (s : Shared) (H : Hp) (E : XK) (c : Fx), c.K = K → c.C = C → Room k (A.deeper (envOfC qual (defScope st) s.heap.objs.size f cdv)) →
      DSs (cxOf (L2.CX P w) P w K mg base N qual (defScope st) f cdv A outer s H E) c (fun cls d _ H => E cls d H) (defBody st) fb) :
    FnOk P w K mg base (L2.CX P w) (k + 1) f fd ps (spD K C ps.length (runOf N.length fb)) := by
  refine F.okX S (fun vs H Q E h => h.1) fun cdv A outer s H vs Q E hr h => ?_
  obtain ⟨hn, G, L, ds, μ, R, d, q⟩ := h
  refine ⟨_, hb cdv A outer s H E ⟨K, L, H, G, C⟩ rfl rfl hr, G, envOf N.length ds, μ, start_rel R d, ?_⟩
  unfold runOf at q
  cases e : fb (envOf N.length ds) μ with
  | nxt env' μ' => rw [e] at q; exact fun σ H' G' _ F' => q .non H' G' F'.toRRel (show RM ⟨K, L, H, G, C⟩ H H' G' .non (.val .non) from Dat.non)
  | ret d' μ' => rw [e] at q; exact q
  | brk env' μ' => rw [e] at q; exact q.elim
  | cnt env' μ' => rw [e] at q; exact q.elim
  | exc z env' μ' => rw [e] at q; exact fun σ H' G' cls dd _ F' xd => q cls dd H' G' F'.toRRel xd
  | bad => rw [e] at q; exact q.elim
/-! ### calls -/
theorem RRel.entry {H G : Hp} {μ : Mu} (R : RRel c H G μ) : RRel ⟨c.K, c.L, H, G, c.C⟩ H G μ := ⟨R.sub, R.nd, R.len, R.loc, fun _ _ h _ => h, Sub.refl, fun _ _ h => .inl h⟩
theorem RRel.lift {H G H' G' : Hp} {μ μ' : Mu} (R : RRel c H G μ) (r : RRel ⟨c.K, c.L, H, G, c.C⟩ H' G' μ') : RRel c H' G' μ' ∧ Ext c.L H G H' G' := by
  have x : Ext c.L H G H' G' := ⟨r.keep, r.gg, r.newG⟩
  refine ⟨⟨r.sub, r.nd, r.len, r.loc, fun b o h n => r.keep b o (R.keep b o h n) n, R.gg.trans r.gg, fun b o h => ?_⟩, x⟩
  rcases x.newG b o h with z | ⟨z, n⟩
  · exact R.newG b o z
  · refine .inr ⟨?_, n⟩
    cases w : c.H0 b with
    | none => rfl
    | some u => rw [R.keep b u w n] at z; cases z
def EV.rv : EV → Option RV
  | .val d => some (.val d)
  | .own ds => some (.val (.lst ds))
  | .un => none
def fFn (n : Nat) (run : RunF) (fa : FA) : FE := fun env μ => (fa env μ).bind fun ds μ => if ds.length = n then (run ds μ).bind fun r μ => match r with
    | .val d => .ok (.val d) μ
    | .own ds => .ok (.val (.lst ds)) μ
    | .un => .bad
  else .bad
def fFnN (n : Nat) (run : RunF) (fa : FA) : FE := fun env μ => (fa env μ).bind fun ds μ => if ds.length = n then (run ds μ).bind fun r μ => match r with
    | .own ds => .ok (.val (.lst ds)) μ
    | _ => .bad
  else .bad
theorem call_run {σ : Sl} {H G : Hp} {env : En} {μ : Mu} {vs : List V} {ds : List D} {run : RunF} {Q : VK} (R : FRel c σ H G env μ) (d : Dats c.K G c.L vs ds)
    (q : tG c W σ H G env (RX c σ) ((run ds μ).bind fun r μ => match r with | .val d => .ok (.val d) μ | .own ds => .ok (.val (.lst ds)) μ | .un => .bad) Q) :
    rG ⟨c.K, c.L, H, G, c.C⟩ (run ds μ) Q (WE W σ) := by
  cases e : run ds μ with
  | bad => rw [e] at q; exact q.elim
  | exc z μ' =>
    rw [e] at q
    intro cls dd H' G' r xd
    obtain ⟨r', x⟩ := R.toRRel.lift r
    exact q cls dd H' G' x (R.back x r') xd
  | ok r μ' =>
    rw [e] at q
    intro v H' G' rr m
    obtain ⟨r', x⟩ := R.toRRel.lift rr
    have F := R.back x r'
    cases r with
    | un => exact q.elim
    | val d => exact q.now x F m
    | own es =>
      obtain ⟨a, us, rfl, z1, z2, z3, z4, z5⟩ := m
      have g : Sub G' (upd G' a (.lst us)) := sub_upd z2
      refine q.now (v := .ref a) ⟨x.keep, x.gg.trans g, fun b o h => ?_⟩ (R.freezeF F z1 z2 z3 z4) (show RX c σ H' (upd G' a (.lst us)) (V.ref a) (RV.val (D.lst es)) from Dat.lst upd_same (z5.up g))
      by_cases hb : b = a
      · subst hb; exact .inr ⟨z4, z3⟩
      · rw [upd_ne hb] at h; exact x.newG b o h
theorem call_runN {σ : Sl} {H G : Hp} {env : En} {μ : Mu} {vs : List V} {ds : List D} {run : RunF} {Q : VK} (R : FRel c σ H G env μ) (d : Dats c.K G c.L vs ds)
    (q : tG c W σ H G env (RF c H) ((run ds μ).bind fun r μ => match r with | .own ds => .ok (.val (.lst ds)) μ | _ => .bad) Q) :
    rG ⟨c.K, c.L, H, G, c.C⟩ (run ds μ) Q (WE W σ) := by
  cases e : run ds μ with
  | bad => rw [e] at q; exact q.elim
  | exc z μ' =>
    rw [e] at q
    intro cls dd H' G' r xd
    obtain ⟨r', x⟩ := R.toRRel.lift r
    exact q cls dd H' G' x (R.back x r') xd
  | ok r μ' =>
    rw [e] at q
    intro v H' G' rr m
    obtain ⟨r', x⟩ := R.toRRel.lift rr
    have F := R.back x r'
    cases r with
    | un => exact q.elim
    | val d => exact q.elim
    | own es =>
      obtain ⟨a, us, rfl, z1, z2, z3, z4, z5⟩ := m
      exact q.now x F ⟨a, us, es, rfl, rfl, z1, z2, z3, z4, z5⟩
theorem de_call {k n : Nat} {f : Addr} {fd : FuncData} {ps : List Str} {run : RunF} {x : Str} {p pos : Pos} {e : Expr} {es : List Expr} {fa : FA} (G : FnOk X.prog X.w X.K X.mg X.base (L2.CX X.prog X.w) k f fd ps (spD X.K c.C n run)) (hr : Room k X.A) (hm : X.mg x = some (.ref f)) (hk : PySem.W.keepIn X.K (.ref f) = true) (hb : Binds X.K fd ps [])
    (tk : Takes X W) (ha : DA X c W (e :: es) fa) (hg : Gl X x := by rfl) (hK : X.K = c.K := by rfl) (hdb : (x == ("__debug__" : Str)) = false := by decide) (he : starEach (e :: es) X.env = (false, eval e X.env) :: starEach es X.env := by rfl) (hpl : (backTo pos (starEach es X.env)).any (·.1) = false := by rfl) :
    DE X c W (.Call (.Name x p) (e :: es) [] pos) (fFn n run fa) := PE.of (pe_callS G hr hg hm hk hb (fun σ => passAt tk σ) ha hdb he hpl) fun σ H Q q => by
  obtain ⟨G, env, μ, R, q⟩ := q
  refine ⟨G, env, μ, R, (tG.bind q).imp (fun _ _ _ _ h => h) ?_⟩
  rintro vs H1 ⟨G1, μ1, ds, x1, R1, d1, q1⟩
  by_cases hl : ds.length = n
  · rw [if_pos hl] at q1
    refine ⟨(Dats.length d1).trans hl, ?_⟩
    rw [hK]
    exact ⟨G1, c.L, ds, μ1, R1.toRRel.entry, d1, call_run R1 d1 q1⟩
  · rw [if_neg hl] at q1; exact q1.elim
theorem dn_call {k n : Nat} {f : Addr} {fd : FuncData} {ps : List Str} {run : RunF} {x : Str} {p pos : Pos} {e : Expr} {es : List Expr} {fa : FA} (G : FnOk X.prog X.w X.K X.mg X.base (L2.CX X.prog X.w) k f fd ps (spD X.K c.C n run)) (hr : Room k X.A) (hm : X.mg x = some (.ref f)) (hk : PySem.W.keepIn X.K (.ref f) = true) (hb : Binds X.K fd ps [])
    (tk : Takes X W) (ha : DA X c W (e :: es) fa) (hg : Gl X x := by rfl) (hK : X.K = c.K := by rfl) (hdb : (x == ("__debug__" : Str)) = false := by decide) (he : starEach (e :: es) X.env = (false, eval e X.env) :: starEach es X.env := by rfl) (hpl : (backTo pos (starEach es X.env)).any (·.1) = false := by rfl) :
    DN X c W (.Call (.Name x p) (e :: es) [] pos) (fFnN n run fa) := PE.of (pe_callS G hr hg hm hk hb (fun σ => passAt tk σ) ha hdb he hpl) fun σ H Q q => by
  obtain ⟨G, env, μ, R, q⟩ := q
  refine ⟨G, env, μ, R, (tG.bind q).imp (fun _ _ _ _ h => h) ?_⟩
  rintro vs H1 ⟨G1, μ1, ds, x1, R1, d1, q1⟩
  by_cases hl : ds.length = n
  · rw [if_pos hl] at q1
    refine ⟨(Dats.length d1).trans hl, ?_⟩
    rw [hK]
    exact ⟨G1, c.L, ds, μ1, R1.toRRel.entry, d1, call_runN R1 d1 (q1.imp (fun _ _ _ _ z => z.base x1) fun _ _ z => z)⟩
  · rw [if_neg hl] at q1; exact q1.elim
/-- f(): no exception -/
def fFn0 (run : RunF) : FE := fun _ μ => (run [] μ).nx.bind fun r μ => match r with
    | .val d => .ok (.val d) μ
    | .own ds => .ok (.val (.lst ds)) μ
    | .un => .bad
theorem de_call0 {k n : Nat} {f : Addr} {fd : FuncData} {ps : List Str} {run : RunF} {x : Str} {p pos : Pos} (G : FnOk X.prog X.w X.K X.mg X.base (L2.CX X.prog X.w) k f fd ps (spD X.K c.C 0 run)) (hr : Room k X.A) (hm : X.mg x = some (.ref f)) (hk : PySem.W.keepIn X.K (.ref f) = true) (hb : Binds X.K fd ps [])
    (hg : Gl X x := by rfl) (hK : X.K = c.K := by rfl) (hdb : (x == ("__debug__" : Str)) = false := by decide) :
    DE X c W (.Call (.Name x p) [] [] pos) (fFn0 run) := PE.of (pe_call0 G hr hg hm hk hb .nil passL hdb) fun σ H Q q => by
  obtain ⟨G, env, μ, R, q⟩ := q
  show spD X.K c.C 0 run ([] ++ []) H Q E0
  refine ⟨rfl, ?_⟩
  rw [hK]
  refine ⟨G, c.L, [], μ, R.toRRel.entry, .nil, ?_⟩
  unfold fFn0 at q
  cases e : run [] μ with
  | bad => rw [e] at q; exact q.elim
  | exc z μ' => rw [e] at q; exact q.elim
  | ok r μ' =>
    rw [e] at q
    have h2 : tG c W σ H G env (RX c σ) ((Res.ok r μ').bind fun r μ => match r with | .val d => .ok (.val d) μ | .own ds => .ok (.val (.lst ds)) μ | .un => .bad) Q := q
    exact call_run (W := W) (ds := []) (vs := []) (run := fun _ _ => .ok r μ') (Q := Q) R .nil h2
/-! ### raise, try -/
theorem pmk_zero {C : Addr} {bmB : List Value} {B newId initId : String} {x : Str} {p pos : Pos} (F : ExcBaseFacts B newId initId bmB) (q : PySem.W.excIn X.K C bmB newId = true) (gC : X.mg x = some (.ref C)) (kC : PySem.W.keepIn X.K (.ref C) = true) (r : Raises X (.ref C)) (hg : Gl X x) (hdb : (x == ("__debug__" : Str)) = false) :
    PMk X (.Call (.Name x p) [] [] pos) (fun _ H Q => Q (.ref C) none H) := by
  intro pins s σ H Q I h
  refine wpAny_Call_Name_kw (ld_glob I hg gC ?_ hdb)
  refine PySem.W.callWith_K0 (first := []) I.kIn kC ?_
  obtain ⟨b1, b2, b3, b4, b5, b6, b7, b8, b9, b10, b11, c0, c1, c2, c3, c5, m1, w1, w2, w3, w4⟩ := exc_obj I.kIn q
  exact wpAny_call_exc_subT F w4 w1 w2 w3 (fun h' e hm => mk_of I hm r h (I.hok.gone hm.new)) (Nat.zero_le _)
def fRaise (j : Nat) : FS := fun env μ => .exc ⟨j, []⟩ env μ
theorem ds_raise {C : Addr} {bmB : List Value} {B newId initId : String} {x : Str} {p pos pos' : Pos} {j : Nat} (hc : X.calm = true) (tk : Takes X W) (F : ExcBaseFacts B newId initId bmB) (q : PySem.W.excIn X.K C bmB newId = true) (gC : X.mg x = some (.ref C)) (kC : PySem.W.keepIn X.K (.ref C) = true) (r : Raises X (.ref C)) (hj : c.C j = C) (hg : Gl X x := by rfl) (hdb : (x == ("__debug__" : Str)) = false := by decide) :
    DS X c W (.Raise (some (.Call (.Name x p) [] [] pos)) none pos') (fRaise j) := PS.of (ps_raise hc tk (pmk_zero F q gC kC r hg hdb)) fun D σ H q => by
  obtain ⟨G, env, μ, R, q⟩ := q
  exact q σ H G _ _ Sub.refl R ⟨by rw [hj], [], rfl, .nil, .inl ⟨rfl, rfl⟩⟩
/-- try: body except X: suite; cs: the classes that the body may raise -/
def SRes.nx : SRes → SRes
  | .exc _ _ _ => .bad
  | r => r
def fTry (cs : List Nat) (k : Nat) (fb fs : FS) : FS := fun env μ => match fb env μ with
  | .exc e env' μ' => if e.cls ∈ cs then (if e.cls = k then (fs env' μ').nx else .exc e env' μ') else .bad
  | r => r
theorem ds_try {x : Str} {cv : Value} {body suite : List Stmt} {b₀ : Stmt} {np pos pos' : Pos} {fb fs : FS} {cs : List Nat} {k : Nat} (hs : X.stack = X.env :: X.outer) (hf : X.env.frame = some X.env.locals) (hc : Names X x cv) (tk : Takes X W)
    (hx : ∀ j ∈ cs, PySem.W.exmOne X.K (.ref (c.C j)) cv = some (decide (j = k)))
    (hb : ∀ (W : WX) (pn : List (Addr × Obj)) (xe : Value → Shared → Prop), Takes (X.tr pn xe) W → PassesOwn (model X.prog X.w) X.A X.env xe → DSs (X.tr pn xe) c W body fb)
    (hsu : ∀ (a : Addr) (pn : List (Addr × Obj)), DSs (X.suite a pn) c W0 (b₀ :: suite) fs) :
    DS X c W (.Try body [.ExceptHandler (some (.Name x np)) none (b₀ :: suite) pos'] [] [] pos) (fTry cs k fb fs) :=
  PS.of (ps_try_only (tb := fun W => tS c W fb) (ts := fun _ _ _ => tS c W0 fs) hs hf hc tk hb fun a oe cls d pn _ _ => hsu a _) fun D σ H q => by
  obtain ⟨G, env, μ, R, q⟩ := q
  refine ⟨G, env, μ, R, ?_⟩
  unfold fTry at q
  cases e : fb env μ with
  | nxt env' μ' => rw [e] at q; exact q
  | ret d μ' => rw [e] at q; exact q
  | brk env' μ' => rw [e] at q; exact q
  | cnt env' μ' => rw [e] at q; exact q
  | bad => rw [e] at q; exact q
  | exc z env' μ' =>
    rw [e] at q
    dsimp only at q
    intro σ' H' G' cls d s' F xd
    by_cases hz : z.cls ∈ cs
    · rw [if_pos hz] at q
      refine ⟨decide (z.cls = k), by rw [xd.1]; exact hx _ hz, fun hk a ha => ?_, fun hk => ?_⟩
      · rw [if_pos (of_decide_eq_true hk)] at q
        refine ⟨G', env', μ', F, ?_⟩
        have q := q.shift s'
        revert q
        cases fs env' μ' with
        | nxt e2 m2 => exact id
        | ret d2 m2 => exact id
        | brk e2 m2 => exact id
        | cnt e2 m2 => exact id
        | bad => exact id
        | exc z2 e2 m2 => exact False.elim
      · rw [if_neg (of_decide_eq_false hk)] at q
        exact q σ' H' G' cls d s' F xd
    · rw [if_neg hz] at q; exact q.elim
end
end Q

set_option Elab.async false
set_option linter.all false
set_option maxRecDepth 100000
set_option maxHeartbeats 4000000
/-! QK: enumerate and zip over lists and tuples. -/
namespace Q
open PySem PySem.Spec PyProof.Rows L2
/-! ### sources: a list (true) or a tuple (false) -/
def sqS (K : PySem.W.Frag) (H : Hp) (k : Bool) (a : Addr) (xs : List V) : Prop := if k then SqL K H a xs else SqT K H a xs
def itS (h : Heap) (k : Bool) (it a : Addr) (i : Nat) : Prop := if k then h.IsListIter it a i else h.IsTupleIter it a i
def isS (h : Heap) (k : Bool) (a : Addr) (its : Array Value) : Prop := if k then h.IsList a its else h.IsTuple a its
def beg (k : Bool) (a : Addr) : Obj := if k then { cls := .type "list_iterator", data := .fields #[.ref a, .int 0 0] } else { cls := .type "tuple_iterator", data := .fields #[.ref a, .int 0 0] }
theorem beg_ok (k : Bool) (a : Addr) (its : Array Value) : Begins (.ref a) (beg k a) fun h => isS h k a its := by
  cases k
  · exact begins_tuple a its
  · exact begins_list a its
theorem draw_ok {prog : Program} {w : World} {A : Around} (hh : A.handled = none) (k : Bool) (it a : Addr) (hne : a ≠ it) (its : Array Value) :
    Draws prog w A it [it, a] its.size (fun i v => its[i]? = some v) (fun i h => itS h k it a i ∧ isS h k a its) := by
  cases k
  · exact Draws.tuple hh it a hne its
  · exact Draws.list hh it a hne its
theorem beg_it {h : Heap} {k : Bool} {it a : Addr} (e : h.get? it = some (beg k a)) : itS h k it a 0 := by
  cases k
  · exact ⟨_, e, rfl, rfl⟩
  · exact ⟨_, e, rfl, rfl⟩
theorem itS_ne {h : Heap} {k : Bool} {it a : Addr} {i : Nat} {its : Array Value} (x : itS h k it a i) (y : isS h k a its) : a ≠ it := fun z => by
  subst z
  cases k
  · obtain ⟨o, e, c, _⟩ := x
    obtain ⟨o', e', c', _⟩ := y
    rw [e] at e'; cases e'; rw [c] at c'; injection c' with c'; exact absurd c' (by decide)
  · obtain ⟨o, e, c, _⟩ := x
    obtain ⟨o', e', c', _⟩ := y
    rw [e] at e'; cases e'; rw [c] at c'; injection c' with c'; exact absurd c' (by decide)
theorem itS_at {h h' : Heap} {k : Bool} {it a : Addr} {i : Nat} (x : itS h k it a i) (e : ∀ o, h.get? it = some o → h'.get? it = some o) : itS h' k it a i := by
  cases k
  · exact x.at e
  · exact x.at e
theorem itS_obj {h : Heap} {k : Bool} {it a : Addr} {i : Nat} (x : itS h k it a i) : ∃ o, h.get? it = some o ∧ ∀ v, o.data ≠ .cell v := by
  cases k
  · obtain ⟨o, e, c, d⟩ := x
    exact ⟨o, e, fun v z => by rw [d] at z; cases z⟩
  · obtain ⟨o, e, c, d⟩ := x
    exact ⟨o, e, fun v z => by rw [d] at z; cases z⟩
section
variable {X : Cx} {pins : List (Addr × Obj)} {σ : Sl} {H : Hp} {s : Shared} {k : Bool} {a : Addr} {xs : List V}
theorem inv_src (I : Inv X pins σ H s) (h : sqS X.K H k a xs) : ∃ its : List Value, Vals xs its ∧ isS s.heap k a its.toArray ∧ a < s.heap.objs.size := by
  cases k
  · obtain ⟨its, r, p, _⟩ := I.tuple h
    obtain ⟨o, e, _⟩ := id p
    exact ⟨its, r, p, Heap.lt_size e⟩
  · obtain ⟨its, r, p, _⟩ := I.list h
    exact ⟨its, r, p.isList, p.lt⟩
theorem src_inj (I : Inv X pins σ H s) {ys : List V} (h : sqS X.K H k a xs) (h' : sqS X.K H k a ys) : xs = ys := by
  cases k
  · exact I.tuple_inj h h'
  · exact I.list_inj h h'
end
/-! ### enumerate -/
def ItE (K : PySem.W.Frag) (k : Bool) (a : Addr) : It :=
  ⟨fun i H => ∃ xs x, sqS K H k a xs ∧ xs[i]? = some x,
   fun i H v H' => ∃ T x, v = .ref T ∧ H T = none ∧ H' = upd H T (.tup [.int (i : Int), x]) ∧ ∀ xs, sqS K H k a xs → xs[i]? = some x,
   fun i H => ∃ xs, sqS K H k a xs ∧ xs.length = i⟩
theorem turn_en {P : Program} {w : World} {K : PySem.W.Frag} {elts : List Expr} {kk : Nat} {tpos : Pos} (k : Bool) (a e it : Addr) (hne : e ≠ it) : Turn P w K (.Tuple elts kk tpos) (ItE K k a) [e, it] e (fun i h => (∃ old, IsEnum h e it (0 + ((i : Nat) : Int)) old) ∧ itS h k it a i) where
  mem := by simp
  obj := fun i h st b hb => by
    obtain ⟨⟨old, h1⟩, h2⟩ := st
    have hb' : b = e ∨ b = it := by simpa using hb
    rcases hb' with z | z
    · rw [z]; exact ⟨_, h1, fun v q => nomatch q⟩
    · rw [z]; exact itS_obj h2
  keep := fun i h h' st kp => by
    obtain ⟨⟨old, h1⟩, h2⟩ := st
    exact ⟨⟨old, kp e (by simp) _ h1⟩, itS_at h2 fun o q => kp it (by simp) o q⟩
  item := by
    intro X hP hw hK hc i pins s σ H E I hf st hg
    subst hP hw hK
    obtain ⟨xs, x, hq, hx⟩ := hg
    obtain ⟨its, rv, p, hlt⟩ := inv_src I hq
    obtain ⟨u, hu, ru⟩ := rv.get hx
    have hn := itS_ne st.2 p
    have hit : it < s.heap.objs.size := by obtain ⟨o, q, _⟩ := itS_obj st.2; exact Heap.lt_size q
    have hea : e ≠ a := fun z => by
      obtain ⟨old, h1⟩ := st.1
      subst z
      cases k
      · obtain ⟨o', e', c', _⟩ := p
        have h1' : s.heap.get? e = some _ := h1
        rw [e'] at h1'; cases h1'; injection c' with c'; exact absurd c' (by decide)
      · obtain ⟨o', e', c', _⟩ := p
        have h1' : s.heap.get? e = some _ := h1
        rw [e'] at h1'; cases h1'; injection c' with c'; exact absurd c' (by decide)
    have D := GoesN.enumFrom (elts := elts) (x1 := kk) (pos := tpos) 0 (draw_ok (prog := X.prog) (w := X.w) (A := X.A.in1) (I.ok.hd hc) k it a hn its.toArray) e hne (fun z => by
      rcases List.mem_cons.mp z with q | q
      · exact hne q
      · exact hea (by simpa using q)) (by simp)
    refine D.goes i s _ E ?_ ⟨st.1, st.2, p⟩ fun v h' tk ⟨T, t, y, ev, hT, hy, hTt⟩ st' kp _ => ?_
    · have := (List.getElem?_eq_some_iff.mp hu).1
      rw [List.size_toArray]; exact this
    · have hy' : u = y := by
        have z : its.toArray[i]? = some u := by simpa using hu
        rw [z] at hy; exact Option.some.inj hy
      subst hy'
      subst ev
      obtain ⟨ob, o1, o2, n, o3⟩ := hTt
      have new : ObjOk X.prog X.w (upd H T (.tup [.int (i : Int), x])) h' T (.tup [.int (i : Int), x]) :=
        ⟨by show 2 ≤ sizeLine; decide, [.int (0 + (i : Int)) t, u], .cons ⟨t, by rw [Int.zero_add]⟩ (.cons ru .nil), ⟨ob, o1, o2, n, o3⟩⟩
      have I1 : Inv X pins σ (upd H T (.tup [.int (i : Int), x])) { s with heap := h', toks := tk } := I.turnedNew (ch := [e, it]) kp hf hT new
      refine ⟨.ref T, _, I1, rfl, ⟨T, x, rfl, I.hok.fresh hT, rfl, fun ys hy => by rw [src_inj I hy hq]; exact hx⟩, ⟨st'.1, st'.2.1⟩, fun b hb => ?_⟩
      have hlt' : b < s.heap.objs.size := by
        have hb' : b = e ∨ b = it := by simpa using hb
        rcases hb' with z | z
        · obtain ⟨old, h1⟩ := st.1
          rw [z]; exact Heap.lt_size h1
        · rw [z]; exact hit
      rw [upd_ne (Nat.ne_of_lt (Nat.lt_of_lt_of_le hlt' hT))]
      exact (hf b hb).1
  done := by
    intro X hP hw hK hc i pins s σ H E I hf st hg
    subst hP hw hK
    obtain ⟨xs, hq, hx⟩ := hg
    obtain ⟨its, rv, p, hlt⟩ := inv_src I hq
    have hn := itS_ne st.2 p
    have hea : e ≠ a := fun z => by
      obtain ⟨old, h1⟩ := st.1
      subst z
      cases k
      · obtain ⟨o', e', c', _⟩ := p
        have h1' : s.heap.get? e = some _ := h1
        rw [e'] at h1'; cases h1'; injection c' with c'; exact absurd c' (by decide)
      · obtain ⟨o', e', c', _⟩ := p
        have h1' : s.heap.get? e = some _ := h1
        rw [e'] at h1'; cases h1'; injection c' with c'; exact absurd c' (by decide)
    have D := GoesN.enumFrom (elts := elts) (x1 := kk) (pos := tpos) 0 (draw_ok (prog := X.prog) (w := X.w) (A := X.A.in1) (I.ok.hd hc) k it a hn its.toArray) e hne (fun z => by
      rcases List.mem_cons.mp z with q | q
      · exact hne q
      · exact hea (by simpa using q)) (by simp)
    have hi : its.toArray.size = i := by rw [List.size_toArray, ← rv.length, hx]
    rw [← hi] at st
    exact D.stops s (fun s' => Inv X pins σ H s') E ⟨st.1, st.2, p⟩ fun h' tk kp _ => I.turnedL (ch := [e, it]) kp hf
  self := fun A i s Q E st h => by
    obtain ⟨⟨old, h1⟩, _⟩ := st
    exact wpAny_pyIter_enum h1 h
set_option maxHeartbeats 8000000 in
theorem en_new {v : Value} {o : Obj} {Hh : Heap → Prop} (B : Begins v o Hh) :
    Meets (Builtin.«enumerate.__new__» ⟨[.type "enumerate", v], []⟩) (fun _ R s => Hh s.heap ∧
      R (.ok (.ret (.ref (s.heap.push o).objs.size))) { s with heap := (s.heap.push o).push { cls := .type "enumerate", data := .fields #[.none, .bool false, .ref s.heap.objs.size, rawInt 0, .none, .none] } }) :=
  .of_wp fun prog w A R s h => by
    obtain ⟨hp, g, d, tk, os⟩ := s
    obtain ⟨h1, h⟩ := h
    have hsub := sub_enumerate
    have go : ∀ {A' : Around} {E : Value → Shared → Prop} {Q : Value → Shared → Prop}, Q (.ref hp.objs.size) ⟨hp.push o, g, d, tk, os⟩ → wpAny (model prog w) A' (pyIter v) Q E ⟨hp, g, d, tk, os⟩ :=
      fun q => B.iter prog w _ _ ⟨hp, g, d, tk, os⟩ _ h1 q
    wp_walk using go
    refine wpAny_stack_any fun st => wpAny_pure ?_
    split
    · rename_i c _ _ _ _ _
      cases (c == Value.type "enumerate")
      · wp_walk using go
        exact ⟨_, rfl, h⟩
      · wp_walk using go
        exact ⟨_, rfl, h⟩
    · wp_walk using go
      exact ⟨_, rfl, h⟩
theorem call_en {prog : Program} {w : World} {A : Around} {E : Value → Shared → Prop} {s : Shared} {v : Value} {o : Obj} {Hh : Heap → Prop} {Q : Value → Shared → Prop} (B : Begins v o Hh) (h1 : Hh s.heap)
    (h : ∀ h', IsEnum h' (s.heap.objs.size + 1) s.heap.objs.size 0 .none → h'.get? s.heap.objs.size = some o → (∀ b u, s.heap.get? b = some u → h'.get? b = some u) → Q (.ref (s.heap.objs.size + 1)) { s with heap := h' }) :
    wpAny (model prog w) A (call (.type "enumerate") [v]) Q E s := by
  refine callType_new F.called_enumerate (by decide) (F.typeCall_enumerate_1 _) (F.newCall_enumerate_1 _) (fun obj => F.args_object_init_2 obj _) F.entry_enumerate_new (en_new B) ⟨h1, ?_⟩
  have hz : (s.heap.push o).objs.size = s.heap.objs.size + 1 := Heap.size_push ..
  show _ ∧ _
  rw [hz]
  have top := Heap.get?_push_size (s.heap.push o) (o := { cls := .type "enumerate", data := .fields #[.none, .bool false, .ref s.heap.objs.size, rawInt 0, .none, .none] }) rfl
  rw [hz] at top
  have he : IsEnum ((s.heap.push o).push { cls := .type "enumerate", data := .fields #[.none, .bool false, .ref s.heap.objs.size, rawInt 0, .none, .none] }) (s.heap.objs.size + 1) s.heap.objs.size 0 .none := top
  exact ⟨⟨_, he, rfl⟩, h _ he (Heap.get?_push_of_some _ (Heap.get?_push_size _ B.free)) fun b u x => Heap.get?_push_of_some _ (Heap.get?_push_of_some _ x)⟩
section
variable {X : Cx}
def iEn (K : PySem.W.Frag) (ta : TA) : TI := fun σ H R => ta σ H fun vs H1 => ∃ k a xs, vs = [.ref a] ∧ sqS K H1 k a xs ∧ R (ItE K k a) H1
theorem pi_en {e : Expr} {ta : TA} {p pos tpos : Pos} {elts : List Expr} {kk : Nat} (hg : Gl X "enumerate") (hm : X.mg "enumerate" = none) (ha : PA X [e] ta) (hs : starEach [e] X.env = [(false, eval e X.env)]) :
    PI X (.Tuple elts kk tpos) (.Call (.Name "enumerate" p) [e] [] pos) (iEn X.K ta) := by
  refine ⟨fun pins s σ H R I h => ?_⟩
  refine Call_ (ld_blt I hg hm PyProof.Rows.boot_enumerate (PyProof.Rows.callWith_type1 (thn (ha.run pos pins s σ H _ I h) fun us s1 ⟨vs, H1, I1, r1, q1⟩ => ?_) hs rfl))
  obtain ⟨k, a, xs, ev, hq, q⟩ := q1
  subst ev
  obtain ⟨u, rfl, ru⟩ := vals1 r1
  cases ru
  obtain ⟨its, rv, p1, hlt⟩ := inv_src I1 hq
  refine call_en (beg_ok k a its.toArray) p1 fun h' he hb hk => wpAny_pyIter_enum he ?_
  have I2 : Inv X pins σ H1 { s1 with heap := h' } := I1.kept (t' := s1.toks) hk
  refine ⟨s1.heap.objs.size + 1, [s1.heap.objs.size + 1, s1.heap.objs.size], _, _, H1, rfl, I2, turn_en k a (s1.heap.objs.size + 1) s1.heap.objs.size (Nat.succ_ne_self _), ⟨⟨_, he⟩, beg_it hb⟩, fun b hbm => ?_, q⟩
  have hle : s1.heap.objs.size ≤ b := by
    have hb' : b = s1.heap.objs.size + 1 ∨ b = s1.heap.objs.size := by simpa using hbm
    rcases hb' with z | z
    · rw [z]; exact Nat.le_succ _
    · rw [z]; exact Nat.le_refl _
  exact I1.fpOk hle (I1.hok.fresh hle)
end
/-! ### zip of two -/
def ItZ (K : PySem.W.Frag) (k1 : Bool) (a : Addr) (k2 : Bool) (b : Addr) : It :=
  ⟨fun i H => ∃ xs ys x y, sqS K H k1 a xs ∧ sqS K H k2 b ys ∧ xs[i]? = some x ∧ ys[i]? = some y,
   fun i H v H' => ∃ T x y, v = .ref T ∧ H T = none ∧ H' = upd H T (.tup [x, y]) ∧ (∀ xs, sqS K H k1 a xs → xs[i]? = some x) ∧ ∀ ys, sqS K H k2 b ys → ys[i]? = some y,
   fun i H => ∃ xs ys, sqS K H k1 a xs ∧ sqS K H k2 b ys ∧ min xs.length ys.length = i⟩
theorem turn_zp {P : Program} {w : World} {K : PySem.W.Frag} {elts : List Expr} {kk : Nat} {tpos : Pos} {z TI TO i1 i2 a b : Addr} (k1 k2 : Bool) (S : ZipSep2 z TI TO i1 i2 [i1, a] [i2, b]) : Turn P w K (.Tuple elts kk tpos) (ItZ K k1 a k2 b) [z, TI, TO, i1, i2] z
    (fun i h => IsZip h z TI TO .none ∧ IsTupOf2 h TI (.ref i1) (.ref i2) ∧ (∃ x y, IsTupOf2 h TO x y) ∧ itS h k1 i1 a i ∧ itS h k2 i2 b i) where
  mem := by simp
  obj := fun i h st c hc => by
    obtain ⟨hz, hI, ⟨x, y, hO⟩, h1, h2⟩ := st
    have hc' : c = z ∨ c = TI ∨ c = TO ∨ c = i1 ∨ c = i2 := by simpa using hc
    rcases hc' with q | q | q | q | q
    · rw [q]; exact ⟨_, hz, fun v q => nomatch q⟩
    · rw [q]; exact ⟨_, hI, fun v q => nomatch q⟩
    · rw [q]; exact ⟨_, hO, fun v q => nomatch q⟩
    · rw [q]; exact itS_obj h1
    · rw [q]; exact itS_obj h2
  keep := fun i h h' st kp => by
    obtain ⟨hz, hI, ⟨x, y, hO⟩, h1, h2⟩ := st
    exact ⟨kp z (by simp) _ hz, kp TI (by simp) _ hI, ⟨x, y, kp TO (by simp) _ hO⟩, itS_at h1 fun o q => kp i1 (by simp) o q, itS_at h2 fun o q => kp i2 (by simp) o q⟩
  item := by
    intro X hP hw hK hc i pins s σ H E I hf st hg
    subst hP hw hK
    obtain ⟨xs, ys, x, y, hq1, hq2, hx, hy⟩ := hg
    obtain ⟨its1, r1, p1, _⟩ := inv_src I hq1
    obtain ⟨its2, r2, p2, _⟩ := inv_src I hq2
    obtain ⟨u1, hu1, ru1⟩ := r1.get hx
    obtain ⟨u2, hu2, ru2⟩ := r2.get hy
    obtain ⟨hz, hI, hO, h1, h2⟩ := st
    have D := GoesN.zip2 (elts := elts) (x1 := kk) (pos := tpos) S (draw_ok (prog := X.prog) (w := X.w) (A := X.A.in1) (I.ok.hd hc) k1 i1 a (itS_ne h1 p1) its1.toArray) (draw_ok (prog := X.prog) (w := X.w) (A := X.A.in1) (I.ok.hd hc) k2 i2 b (itS_ne h2 p2) its2.toArray)
    refine D.goes i s _ E ?_ ⟨hz, hI, hO, ⟨h1, p1⟩, ⟨h2, p2⟩⟩ fun v h' tk ⟨T, w1, w2, ev, hT, e1, e2, hTt⟩ st' kp _ => ?_
    · have z1 := (List.getElem?_eq_some_iff.mp hu1).1
      have z2 := (List.getElem?_eq_some_iff.mp hu2).1
      rw [List.size_toArray, List.size_toArray]; omega
    · have q1 : u1 = w1 := by
        have z : its1.toArray[i]? = some u1 := by simpa using hu1
        rw [z] at e1; exact Option.some.inj e1
      have q2 : u2 = w2 := by
        have z : its2.toArray[i]? = some u2 := by simpa using hu2
        rw [z] at e2; exact Option.some.inj e2
      subst q1 q2
      subst ev
      obtain ⟨ob, o1, o2, n, o3⟩ := hTt
      have new : ObjOk X.prog X.w (upd H T (.tup [x, y])) h' T (.tup [x, y]) := ⟨by show 2 ≤ sizeLine; decide, [u1, u2], .cons ru1 (.cons ru2 .nil), ⟨ob, o1, o2, n, o3⟩⟩
      have I1 : Inv X pins σ (upd H T (.tup [x, y])) { s with heap := h', toks := tk } := I.turnedNew (ch := [z, TO, i1, i2]) kp (fun c hc => hf c (by
        have hc' : c = z ∨ c = TO ∨ c = i1 ∨ c = i2 := by simpa using hc
        rcases hc' with q | q | q | q <;> simp [q])) hT new
      refine ⟨.ref T, _, I1, rfl, ⟨T, x, y, rfl, I.hok.fresh hT, rfl, fun l hl => by rw [src_inj I hl hq1]; exact hx, fun l hl => by rw [src_inj I hl hq2]; exact hy⟩, ⟨st'.1, st'.2.1, st'.2.2.1, st'.2.2.2.1.1, st'.2.2.2.2.1⟩, fun c hcm => ?_⟩
      have hlt' : c < s.heap.objs.size := by
        have hc' : c = z ∨ c = TI ∨ c = TO ∨ c = i1 ∨ c = i2 := by simpa using hcm
        rcases hc' with q | q | q | q | q
        · rw [q]; exact Heap.lt_size hz
        · rw [q]; exact Heap.lt_size hI
        · obtain ⟨_, _, hO⟩ := hO
          rw [q]; exact Heap.lt_size hO
        · obtain ⟨_, e, _⟩ := itS_obj h1
          rw [q]; exact Heap.lt_size e
        · obtain ⟨_, e, _⟩ := itS_obj h2
          rw [q]; exact Heap.lt_size e
      rw [upd_ne (Nat.ne_of_lt (Nat.lt_of_lt_of_le hlt' hT))]
      exact (hf c hcm).1
  done := by
    intro X hP hw hK hc i pins s σ H E I hf st hg
    subst hP hw hK
    obtain ⟨xs, ys, hq1, hq2, hi⟩ := hg
    obtain ⟨its1, r1, p1, _⟩ := inv_src I hq1
    obtain ⟨its2, r2, p2, _⟩ := inv_src I hq2
    obtain ⟨hz, hI, hO, h1, h2⟩ := st
    have D := GoesN.zip2 (elts := elts) (x1 := kk) (pos := tpos) S (draw_ok (prog := X.prog) (w := X.w) (A := X.A.in1) (I.ok.hd hc) k1 i1 a (itS_ne h1 p1) its1.toArray) (draw_ok (prog := X.prog) (w := X.w) (A := X.A.in1) (I.ok.hd hc) k2 i2 b (itS_ne h2 p2) its2.toArray)
    have hi' : min its1.toArray.size its2.toArray.size = i := by rw [List.size_toArray, List.size_toArray, ← r1.length, ← r2.length, hi]
    rw [← hi'] at h1 h2
    exact D.stops s (fun s' => Inv X pins σ H s') E ⟨hz, hI, hO, ⟨h1, p1⟩, ⟨h2, p2⟩⟩ fun h' tk kp _ => I.turnedL (ch := [z, TO, i1, i2]) kp fun c hc => hf c (by
      have hc' : c = z ∨ c = TO ∨ c = i1 ∨ c = i2 := by simpa using hc
      rcases hc' with q | q | q | q <;> simp [q])
  self := fun A i s Q E st h => wpAny_pyIter_zip st.1 h
section
variable {X : Cx}
def iZp (K : PySem.W.Frag) (ta : TA) : TI := fun σ H R => ta σ H fun vs H1 => ∃ k1 a k2 b xs ys, vs = [.ref a, .ref b] ∧ sqS K H1 k1 a xs ∧ sqS K H1 k2 b ys ∧ R (ItZ K k1 a k2 b) H1
theorem pi_zp {e e2 : Expr} {ta : TA} {p pos tpos : Pos} {elts : List Expr} {kk : Nat} (hg : Gl X "zip") (hm : X.mg "zip" = none) (ha : PA X [e, e2] ta)
    (hs : starEach [e, e2] X.env = (false, eval e X.env) :: starEach [e2] X.env) (hpl : (backTo pos (starEach [e2] X.env)).any (·.1) = false) :
    PI X (.Tuple elts kk tpos) (.Call (.Name "zip" p) [e, e2] [] pos) (iZp X.K ta) := by
  refine ⟨fun pins s σ H R I h => ?_⟩
  refine Call_ (ld_blt I hg hm PyProof.Rows.boot_zip (PyProof.Rows.callWith_type1 (thn (ha.run pos pins s σ H _ I h) fun us s1 ⟨vs, H1, I1, r1, q1⟩ => ?_) hs hpl))
  obtain ⟨k1, a, k2, b, xs, ys, ev, hq1, hq2, q⟩ := q1
  subst ev
  obtain ⟨u, w, rfl, ru, rw'⟩ := vals2 r1
  cases ru
  cases rw'
  obtain ⟨its1, v1, p1, l1⟩ := inv_src I1 hq1
  obtain ⟨its2, v2, p2, l2⟩ := inv_src I1 hq2
  refine zip_begins2 (beg_ok k1 a its1.toArray) (beg_ok k2 b its2.toArray) p1 p2 fun h' hz hI hO hb1 hb2 hsz hk => wpAny_pyIter_zip hz ?_
  have I2 : Inv X pins σ H1 { s1 with heap := h' } := I1.kept (t' := s1.toks) hk
  have S := zip_sep2 (N := s1.heap.objs.size) (fp1 := [a]) (fp2 := [b]) (fun c hc => by
    have : c = a := by simpa using hc
    rw [this]; exact l1) (fun c hc => by
    have : c = b := by simpa using hc
    rw [this]; exact l2)
  refine ⟨s1.heap.objs.size + 4, [s1.heap.objs.size + 4, s1.heap.objs.size + 2, s1.heap.objs.size + 3, s1.heap.objs.size, s1.heap.objs.size + 1], _, _, H1, rfl, I2, turn_zp k1 k2 S, ⟨hz, hI, ⟨_, _, hO⟩, beg_it hb1, beg_it hb2⟩, fun c hcm => ?_, q⟩
  have hle : s1.heap.objs.size ≤ c := by
    have hc' : c = s1.heap.objs.size + 4 ∨ c = s1.heap.objs.size + 2 ∨ c = s1.heap.objs.size + 3 ∨ c = s1.heap.objs.size ∨ c = s1.heap.objs.size + 1 := by simpa using hcm
    rcases hc' with z | z | z | z | z <;> rw [z] <;> first | exact Nat.le_refl _ | exact Nat.le_add_right _ _
  exact I1.fpOk hle (I1.hok.fresh hle)
end
/-! ### as sources of loops -/
section
variable {X : Cx} {c : Fx} {W : WX}
def enumD (k : Int) : List D → List D
  | [] => []
  | d :: ds => .tup [.int k, d] :: enumD (k + 1) ds
def zipD : List D → List D → List D
  | d :: ds, e :: es => .tup [d, e] :: zipD ds es
  | _, _ => []
theorem enumD_len : ∀ (ds : List D) (k : Int), (enumD k ds).length = ds.length
  | [], _ => rfl
  | d :: ds, k => congrArg (· + 1) (enumD_len ds (k + 1))
theorem enumD_get : ∀ (ds : List D) (k : Int) (i : Nat) (d : D), ds[i]? = some d → (enumD k ds)[i]? = some (.tup [.int (k + i), d])
  | [], _, _, _, h => by simp at h
  | e :: ds, k, 0, d, h => by
    have : e = d := by simpa using h
    subst this
    simp [enumD]
  | e :: ds, k, i + 1, d, h => by
    have h' : ds[i]? = some d := by simpa using h
    have := enumD_get ds (k + 1) i d h'
    show (enumD (k + 1) ds)[i]? = _
    rw [this]
    congr 4
    omega
theorem zipD_len : ∀ (ds es : List D), (zipD ds es).length = min ds.length es.length
  | [], _ => by simp [zipD]
  | _ :: _, [] => by simp [zipD]
  | d :: ds, e :: es => by simp [zipD, zipD_len ds es]
theorem zipD_get : ∀ (ds es : List D) (i : Nat) (d e : D), ds[i]? = some d → es[i]? = some e → (zipD ds es)[i]? = some (.tup [d, e])
  | [], _, _, _, _, h, _ => by simp at h
  | _ :: _, [], _, _, _, _, h => by simp at h
  | a :: ds, b :: es, 0, d, e, h, h' => by
    have h1 : a = d := by simpa using h
    have h2 : b = e := by simpa using h'
    subst h1 h2
    rfl
  | a :: ds, b :: es, i + 1, d, e, h, h' => zipD_get ds es i d e (by simpa using h) (by simpa using h')
/-- a source that is frozen -/
def srcD : D → Option (List D)
  | .tup ds => some ds
  | .lst ds => some ds
  | .frz ds => some ds
  | _ => none
theorem src_at {G H : Hp} (s : Sub G H) {x : V} {d : D} {ds : List D} (dd : Dat c.K G c.L x d) (e : srcD d = some ds) : ∃ k a vs, x = .ref a ∧ (∀ H2, Sub G H2 → sqS c.K H2 k a vs) ∧ Dats c.K G c.L vs ds := by
  cases dd with
  | tup q t => cases e; exact ⟨false, _, _, rfl, fun H2 s2 => s2.sqT q, t⟩
  | lst q t => cases e; exact ⟨true, _, _, rfl, fun H2 s2 => SqL.of (s2 _ _ q), t⟩
  | frz q t => cases e; exact ⟨true, _, _, rfl, fun H2 s2 => s2.sqL q, t⟩
  | _ => cases e
theorem walkD_en {G1 : Hp} {k : Bool} {a : Addr} {vs : List V} {ds : List D} (h : ∀ H2, Sub G1 H2 → sqS c.K H2 k a vs) (d : Dats c.K G1 c.L vs ds) : WalkD c (fun H G => Sub G1 G ∧ Sub G H) (ItE c.K k a) (enumD 0 ds) where
  go := fun i H G hi ⟨s, s2⟩ => by
    rw [enumD_len] at hi
    obtain ⟨v, h1, _⟩ := d.get (i := i) (d := ds[i]) (List.getElem?_eq_getElem hi)
    exact ⟨vs, v, h H (s.trans s2), h1⟩
  stop := fun H G ⟨s, s2⟩ => ⟨vs, h H (s.trans s2), by rw [enumD_len]; exact d.length⟩
  yld := fun i H G x H' hi ⟨s, s2⟩ s3 ⟨T, y, e1, e2, e3, e4⟩ => by
    subst e1 e3
    rw [enumD_len] at hi
    obtain ⟨v, h1, h2⟩ := d.get (i := i) (d := ds[i]) (List.getElem?_eq_getElem hi)
    have hx := e4 vs (h H (s.trans s2))
    rw [h1] at hx
    have hx := Option.some.inj hx
    subst hx
    have gT : G T = none := by
      cases q : G T with
      | none => rfl
      | some o => rw [s3 T o q] at e2; cases e2
    refine ⟨upd G T (.tup [.int (i : Int), v]), sub_upd e2, sub_upd gT, fun b o q => ?_, fun b o q => ?_, .tup [.int (0 + (i : Int)), ds[i]], enumD_get ds 0 i _ (List.getElem?_eq_getElem hi), .tup (SqT.of upd_same) (.cons (by rw [Int.zero_add]; exact .int _) (.cons ((h2.up s).up (sub_upd gT)) .nil))⟩
    · by_cases hb : b = T
      · subst hb; rw [upd_same] at q ⊢; exact q
      · rw [upd_ne hb] at q ⊢; exact s3 b o q
    · by_cases hb : b = T
      · subst hb; exact .inr e2
      · rw [upd_ne hb] at q; exact .inl q
theorem walkD_zp {G1 : Hp} {k1 k2 : Bool} {a b : Addr} {vs ws : List V} {ds es : List D} (h : ∀ H2, Sub G1 H2 → sqS c.K H2 k1 a vs) (d : Dats c.K G1 c.L vs ds) (h' : ∀ H2, Sub G1 H2 → sqS c.K H2 k2 b ws) (d' : Dats c.K G1 c.L ws es) : WalkD c (fun H G => Sub G1 G ∧ Sub G H) (ItZ c.K k1 a k2 b) (zipD ds es) where
  go := fun i H G hi ⟨s, s2⟩ => by
    rw [zipD_len] at hi
    have i1 : i < ds.length := by omega
    have i2 : i < es.length := by omega
    obtain ⟨v, h1, _⟩ := d.get (i := i) (d := ds[i]) (List.getElem?_eq_getElem i1)
    obtain ⟨u, h2, _⟩ := d'.get (i := i) (d := es[i]) (List.getElem?_eq_getElem i2)
    exact ⟨vs, ws, v, u, h H (s.trans s2), h' H (s.trans s2), h1, h2⟩
  stop := fun H G ⟨s, s2⟩ => ⟨vs, ws, h H (s.trans s2), h' H (s.trans s2), by rw [zipD_len, d.length, d'.length]⟩
  yld := fun i H G x H' hi ⟨s, s2⟩ s3 ⟨T, y, z, e1, e2, e3, e4, e5⟩ => by
    subst e1 e3
    rw [zipD_len] at hi
    have i1 : i < ds.length := by omega
    have i2 : i < es.length := by omega
    obtain ⟨v, h1, h2⟩ := d.get (i := i) (d := ds[i]) (List.getElem?_eq_getElem i1)
    obtain ⟨u, h3, h4⟩ := d'.get (i := i) (d := es[i]) (List.getElem?_eq_getElem i2)
    have hx := e4 vs (h H (s.trans s2))
    rw [h1] at hx
    have hx := Option.some.inj hx
    subst hx
    have hy := e5 ws (h' H (s.trans s2))
    rw [h3] at hy
    have hy := Option.some.inj hy
    subst hy
    have gT : G T = none := by
      cases q : G T with
      | none => rfl
      | some o => rw [s3 T o q] at e2; cases e2
    refine ⟨upd G T (.tup [v, u]), sub_upd e2, sub_upd gT, fun b o q => ?_, fun b o q => ?_, .tup [ds[i], es[i]], zipD_get ds es i _ _ (List.getElem?_eq_getElem i1) (List.getElem?_eq_getElem i2), .tup (SqT.of upd_same) (.cons ((h2.up s).up (sub_upd gT)) (.cons ((h4.up s).up (sub_upd gT)) .nil))⟩
    · by_cases hb : b = T
      · subst hb; rw [upd_same] at q ⊢; exact q
      · rw [upd_ne hb] at q ⊢; exact s3 b o q
    · by_cases hb : b = T
      · subst hb; exact .inr e2
      · rw [upd_ne hb] at q; exact .inl q
def fEn (f : FE) : FI := fun env μ => (f env μ).bind fun x μ => match x with
  | .val d => match srcD d with
    | some ds => .ok (enumD 0 ds) μ
    | none => .bad
  | _ => .bad
def fZp (f g : FE) : FI := fun env μ => (f env μ).bind fun x μ => (g env μ).bind fun y μ => match x, y with
  | .val d, .val e => match srcD d, srcD e with
    | some ds, some es => .ok (zipD ds es) μ
    | _, _ => .bad
  | _, _ => .bad
theorem di_en {e : Expr} {f : FE} {elts : List Expr} {kk : Nat} {p pos tpos : Pos} (hm : X.mg "enumerate" = none) (ha : DE X c W e f) (hgl : Gl X "enumerate" := by rfl) (hk : X.K = c.K := by rfl) (hs : starEach [e] X.env = [(false, eval e X.env)] := by rfl) (hs' : starEach [e] X.env = (false, eval e X.env) :: starEach [] X.env := by rfl) :
    DI X c W (.Tuple elts kk tpos) (.Call (.Name "enumerate" p) [e] [] pos) (fEn f) := PI.of (pi_en hgl hm (pa_cons ha pa_nil hs') hs) fun σ H Q q => by
  obtain ⟨G, env, μ, R, q⟩ := q
  refine ⟨G, env, μ, R, (iG.bind q).imp (fun _ _ _ _ h => h) ?_⟩
  rintro v H1 ⟨G1, μ1, x, x1, R1, d1, q1⟩
  cases x with
  | own i => exact q1.elim
  | val d =>
    dsimp only at q1
    split at q1
    · rename_i ds e
      obtain ⟨k, a, vs, rfl, h1, h2⟩ := src_at R1.sub d1 e
      exact ⟨k, a, vs, rfl, hk ▸ h1 H1 R1.sub, q1.now R1 (hk ▸ walkD_en h1 h2)⟩
    · exact q1.elim
theorem di_zp {e e2 : Expr} {f g : FE} {elts : List Expr} {kk : Nat} {p pos tpos : Pos} (hm : X.mg "zip" = none) (ha : DE X c W e f) (hb : DE X c W e2 g) (hgl : Gl X "zip" := by rfl) (hk : X.K = c.K := by rfl) (hs : starEach [e, e2] X.env = (false, eval e X.env) :: starEach [e2] X.env := by rfl) (hs2 : starEach [e2] X.env = (false, eval e2 X.env) :: starEach [] X.env := by rfl) (hpl : (backTo pos (starEach [e2] X.env)).any (·.1) = false := by rfl) :
    DI X c W (.Tuple elts kk tpos) (.Call (.Name "zip" p) [e, e2] [] pos) (fZp f g) := PI.of (pi_zp hgl hm (pa_cons ha (pa_cons hb pa_nil hs2) hs) hs hpl) fun σ H Q q => by
  obtain ⟨G, env, μ, R, q⟩ := q
  refine ⟨G, env, μ, R, (iG.bind q).imp (fun _ _ _ _ h => h) ?_⟩
  rintro v H1 ⟨G1, μ1, x, x1, R1, d1, q1⟩
  refine ⟨G1, env, μ1, R1, (iG.bind q1).imp (fun _ _ _ _ h => h) ?_⟩
  rintro u H2 ⟨G2, μ2, y, x2, R2, d2, q2⟩
  cases x with
  | own i => exact q2.elim
  | val d =>
    cases y with
    | own i => exact q2.elim
    | val e =>
      dsimp only at q2
      split at q2
      · rename_i ds es e1 e2
        obtain ⟨k, a, vs, rfl, h1, h2⟩ := src_at R2.sub (Dat.up x2.gg d1) e1
        obtain ⟨k', a', vs', rfl, h1', h2'⟩ := src_at R2.sub d2 e2
        exact ⟨k, a, k', a', vs, vs', rfl, hk ▸ h1 H2 R2.sub, hk ▸ h1' H2 R2.sub, q2.now R2 (hk ▸ walkD_zp h1 h2 h1' h2')⟩
      · exact q2.elim
end
end Q

set_option Elab.async false
set_option linter.all false
set_option maxRecDepth 100000
set_option maxHeartbeats 4000000
/-! QL: x[i] = e, pop, boxes, keywords. -/
namespace Q
open PySem PySem.Spec PyProof.Rows L2
section
variable {X : Cx} {c : Fx} {W : WX}
/-- x[k] = e, x a list that may change -/
def fSetIx (i : Nat) (fe fk : FE) : FS := fun env μ => (fe env μ).to env fun v μ => match v, getL env μ i with
  | .val d, some _ => (fk env μ).to env fun k μ => match k, getL env μ i with
    | .val (.int n), some ds => match ixN ds.length n with
      | some j => .nxt (putL env μ i (ds.set j d)).1 (putL env μ i (ds.set j d)).2
      | none => .bad
    | _, _ => .bad
  | _, _ => .bad
theorem ds_setIx (i : Nat) {x : Str} {e k : Expr} {fe fk : FE} {p p2 pos : Pos} (he : DE X c W e fe) (hk : DE X c W k fk) (hN : X.N[i]? = some x := by rfl) (hv : Vis X.env.scope x := by first | exact Or.inl rfl | exact Or.inr (Or.inl rfl) | exact Or.inr (Or.inr rfl)) (hd : (x == ("__debug__" : Str)) = false := by decide) (hcd : (x == ("__classdict__" : Str)) = false := by decide)
    (ha : ∀ v, assign (.Subscript (.Name x p) k p2) X.env v = (do
      let ov ← holding [v] (eval (.Name x p) X.env)
      let iv ← holding [v, ov] (eval k X.env)
      standAt p2
      holding [v, ov, iv] (setItem ov iv v)
      release [v, ov, iv] []) := by intro _; rfl)
    (hs : swapsWithSole [.Subscript (.Name x p) k p2] e pos.line X.env = pure false := by rfl) (hw : swappedStores [.Subscript (.Name x p) k p2] e X.env = pure none := by rfl) (h1 : (assignEach [.Subscript (.Name x p) k p2] X.env).map (·.2) = [assign (.Subscript (.Name x p) k p2) X.env] := by rfl) :
    DS X c W (.Assign [.Subscript (.Name x p) k p2] e pos) (fSetIx i fe fk) := PS.of (ps_asg he (pg_sub (pe_var hN hv hd hcd) hk set_list ha) hs hw h1) fun D σ H q => by
  obtain ⟨G, env, μ, R, q⟩ := q
  refine ⟨G, env, μ, R, (sG.to R q).imp (fun _ _ _ _ h => h) ?_⟩
  rintro v H1 ⟨G1, μ1, dx, x1, R1, d1, q1⟩
  cases dx with
  | own j => exact q1.elim
  | val d =>
    (try dsimp only at q1)
    split at q1
    · rename_i d' ds0 ed e0
      cases ed
      obtain ⟨a, vs, h1, h2, h3, _⟩ := R1.mut e0
      refine ⟨.ref a, h1, G1, env, μ1, R1, (sG.to R1 q1).imp (fun _ _ _ _ h => h) ?_⟩
      rintro w H2 ⟨G2, μ2, dk, x2, R2, d2, q2⟩
      cases dk with
      | own j => exact q2.elim
      | val dk =>
        (try dsimp only at q2)
        split at q2
        · rename_i n ds1 en e1
          cases en
          cases d2
          obtain ⟨b, ws, z1, z2, z3, z4⟩ := R2.mut e1
          rw [h1] at z1
          have hb : a = b := by injection z1 with z1; injection z1 with z1; injection z1
          subst hb
          split at q2
          · rename_i j ej
            refine ⟨a, ws, n, j, rfl, rfl, z2, by rw [z3.length]; exact ej, ?_⟩
            exact q2 _ _ _ Sub.refl (z4 _ _ (z3.set (Dat.up x2.gg d1) j))
          · exact q2.elim
        · exact q2.elim
    · exact q1.elim
/-- y.append(x.pop(e)) -/
def fAppPop (y x : Nat) (fe : FE) : FS := fun env μ => match getL env μ y, getL env μ x with
  | some _, some _ => (fe env μ).to env fun k μ => match k, getL env μ x with
    | .val (.int n), some xs => match ixN xs.length n, decide (xs.length ≤ LIM) with
      | some j, true => match xs[j]?, getL (putL env μ x (xs.eraseIdx j)).1 (putL env μ x (xs.eraseIdx j)).2 y with
        | some d, some ys => if ys.length < LIM then .nxt (putL (putL env μ x (xs.eraseIdx j)).1 (putL env μ x (xs.eraseIdx j)).2 y (ys ++ [d])).1 (putL (putL env μ x (xs.eraseIdx j)).1 (putL env μ x (xs.eraseIdx j)).2 y (ys ++ [d])).2 else .bad
        | _, _ => .bad
      | _, _ => .bad
    | _, _ => .bad
  | _, _ => .bad
theorem ds_appPop0 {y x : Nat} {st : Stmt} {fe : FE} (h : PS X st (tDrop (tBM X.K "list" rAppend (tVar y) (tCons (tBM X.K "list" rPopAt (tVar x) (tCons (tE c W fe) tNil)) tNil)))) : DS X c W st (fAppPop y x fe) := PS.of h fun D σ H q => by
  obtain ⟨G, env, μ, R, q⟩ := q
  unfold fAppPop at q
  split at q
  · rename_i ys0 xs0 ey ex
    obtain ⟨a, vs, h1, h2, h3, _⟩ := R.mut ey
    obtain ⟨b, us, k1, k2, k3, _⟩ := R.mut ex
    refine ⟨.ref a, h1, .inl ⟨rfl, vs, SqL.of h2⟩, .ref b, k1, .inl ⟨rfl, us, SqL.of k2⟩, G, env, μ, R, (sG.to R q).imp (fun _ _ _ _ h => h) ?_⟩
    rintro v H1 ⟨G1, μ1, dk, x1, R1, d1, q1⟩
    cases dk with
    | own j => exact q1.elim
    | val dk =>
      (try dsimp only at q1)
      split at q1
      · rename_i n xs en ex1
        cases en
        cases d1
        obtain ⟨b', ws, z1, z2, z3, z4⟩ := R1.mut ex1
        rw [k1] at z1
        have hb : b = b' := by injection z1 with z1; injection z1 with z1; injection z1
        subst hb
        split at q1
        · rename_i j ej hl
          have hl := of_decide_eq_true hl
          obtain ⟨i1, i2, i3, i4⟩ := ixN_seq ej
          have hL : LIM = 16777216 := rfl
          split at q1
          · rename_i d ys ed ey1
            obtain ⟨w, w1, w2⟩ := z3.get ed
            refine ⟨b, ws, n, j, w, rfl, rfl, z2, by omega, by omega, by rw [z3.length]; exact i1, w1, ?_⟩
            have R2 := z4 _ _ (z3.eraseIdx j)
            obtain ⟨a', ts, y1, y2, y3, y4⟩ := R2.mut ey1
            rw [h1] at y1
            have ha : a = a' := by injection y1 with y1; injection y1 with y1; injection y1
            subst ha
            split at q1
            · rename_i hl2
              refine ⟨a, ts, w, rfl, rfl, y2, by rw [y3.length, ← LIM_eq]; exact hl2, ?_⟩
              exact q1 _ _ _ Sub.refl (y4 _ _ (y3.append (.cons w2 .nil)))
            · exact q1.elim
          · exact q1.elim
        · exact q1.elim
      · exact q1.elim
  · exact q.elim
theorem ds_appPop (y x : Nat) {ny nx : Str} {e : Expr} {fe : FE} {p a1 p2 a2 p3 p4 pos : Pos} (he : DE X c W e fe) (hNy : X.N[y]? = some ny := by rfl) (hNx : X.N[x]? = some nx := by rfl) (hvy : Vis X.env.scope ny := by first | exact Or.inl rfl | exact Or.inr (Or.inl rfl) | exact Or.inr (Or.inr rfl)) (hvx : Vis X.env.scope nx := by first | exact Or.inl rfl | exact Or.inr (Or.inl rfl) | exact Or.inr (Or.inr rfl))
    (hdy : (ny == ("__debug__" : Str)) = false := by decide) (hcy : (ny == ("__classdict__" : Str)) = false := by decide) (hdx : (nx == ("__debug__" : Str)) = false := by decide) (hcx : (nx == ("__classdict__" : Str)) = false := by decide)
    (hb1 : attributeBase (.Name nx p2) "pop" X.env (eval (.Name nx p2) X.env) = eval (.Name nx p2) X.env := by rfl)
    (hf1 : ((backTo p3 (starEach [e] X.env)).all (fun x => !x.1) && (backToKw p3 (keywordEach [] X.env)).all (fun x => x.1.isSome) && decide ([e].length + ([] : List Keyword).length + (if ([] : List Keyword).isEmpty then 0 else 1) < 30)) = true := by rfl)
    (hl1 : (a2.endLine == p3.line) = true := by rfl) (hs1 : starEach [e] X.env = (false, eval e X.env) :: starEach [] X.env := by rfl)
    (hb2 : attributeBase (.Name ny p) "append" X.env (eval (.Name ny p) X.env) = eval (.Name ny p) X.env := by rfl)
    (hf2 : ((backTo p4 (starEach [.Call (.Attribute (.Name nx p2) "pop" a2) [e] [] p3] X.env)).all (fun x => !x.1) && (backToKw p4 (keywordEach [] X.env)).all (fun x => x.1.isSome) && decide ([Expr.Call (.Attribute (.Name nx p2) "pop" a2) [e] [] p3].length + ([] : List Keyword).length + (if ([] : List Keyword).isEmpty then 0 else 1) < 30)) = true := by rfl)
    (hl2 : (a1.endLine == p4.line) = true := by rfl) (hs2 : starEach [.Call (.Attribute (.Name nx p2) "pop" a2) [e] [] p3] X.env = (false, eval (.Call (.Attribute (.Name nx p2) "pop" a2) [e] [] p3) X.env) :: starEach [] X.env := by rfl)
    (hsw : swapsWith (.Call (.Attribute (.Name ny p) "append" a1) [.Call (.Attribute (.Name nx p2) "pop" a2) [e] [] p3] [] p4) none pos.line X.env = pure false := by rfl) :
    DS X c W (.Expr (.Call (.Attribute (.Name ny p) "append" a1) [.Call (.Attribute (.Name nx p2) "pop" a2) [e] [] p3] [] p4) pos) (fAppPop y x fe) :=
  ds_appPop0 (ps_expr (pe_bm PySem.F.plainAttrs_list PySem.F.slot_list_append PySem.F.type_list_append mt_append (pe_var hNy hvy hdy hcy)
    (pa_cons (pe_bm PySem.F.plainAttrs_list PySem.F.slot_list_pop PySem.F.type_list_pop mt_popAt (pe_var hNx hvx hdx hcx) (pa_cons he pa_nil hs1) hb1 hf1 hl1 hs1 (by rfl)) pa_nil hs2) hb2 hf2 hl2 hs2 (by rfl)) hsw)

/-! ### a call whose one argument is a new list that the def may change -/
def fBox (run : RunF) (f : FE) : FE := fun env μ => match μ, f env μ with
  | [], .ok (.val (.lst ds)) [] => match run [.loc 0] [ds] with
    | .ok (.val (.bl b)) _ => .ok (.val (.bl b)) []
    | _ => .bad
  | _, _ => .bad
theorem de_box {k : Nat} {f : Addr} {fd : FuncData} {ps : List Str} {run : RunF} {x : Str} {p pos : Pos} {e : Expr} {fe : FE} (G : FnOk X.prog X.w X.K X.mg X.base (L2.CX X.prog X.w) k f fd ps (spD X.K c.C 1 run)) (hr : Room k X.A) (hm : X.mg x = some (.ref f)) (hk : PySem.W.keepIn X.K (.ref f) = true) (hb : Binds X.K fd ps [])
    (tk : Takes X W) (ha : DN X c W e fe) (hg : Gl X x := by rfl) (hK : X.K = c.K := by rfl) (hdb : (x == ("__debug__" : Str)) = false := by decide) (hs : starEach [e] X.env = (false, eval e X.env) :: starEach [] X.env := by rfl) (hpl : (backTo pos (starEach [] X.env)).any (·.1) = false := by rfl) :
    DE X c W (.Call (.Name x p) [e] [] pos) (fBox run fe) := PE.of (pe_callS G hr hg hm hk hb (fun σ => passAt tk σ) (pa_cons ha pa_nil hs) hdb hs hpl) fun σ H Q q => by
  obtain ⟨G, env, μ, R, q⟩ := q
  refine ⟨G, env, μ, R, ?_⟩
  unfold fBox at q
  cases ef : fe env μ with
  | bad => rw [ef] at q; cases μ <;> exact q.elim
  | exc z m => rw [ef] at q; cases μ <;> exact q.elim
  | ok d m =>
    rw [ef] at q
    rintro v H1 G1 x1 R1 ⟨a, vs, ds, rfl, rfl, z1, z2, z3, z4, z5⟩
    cases μ with
    | cons _ _ => exact q.elim
    | nil =>
      cases m with
      | cons _ _ => exact q.elim
      | nil =>
        dsimp only at q
        have hL : c.L = [] := List.eq_nil_of_length_eq_zero R.len
        show spD X.K c.C 1 run [.ref a] H1 Q (WE W σ)
        refine ⟨rfl, G1, [a], [.loc 0], [ds], ⟨R1.sub, List.nodup_cons.mpr ⟨List.not_mem_nil, List.nodup_nil⟩, rfl, ?_, fun _ _ h _ => h, Sub.refl, fun _ _ h => .inl h⟩, .cons (.loc rfl) .nil, ?_⟩
        · intro n b es h1 h2
          match n with
          | 0 =>
            cases h1
            cases h2
            rw [hK]
            exact ⟨z2, vs, z1, z5.mono Sub.refl fun n b e => by rw [hL] at e; simp at e⟩
          | n + 1 => simp at h1
        · cases er : run [.loc 0] [ds] with
          | bad => rw [er] at q; exact q.elim
          | exc z m => rw [er] at q; exact q.elim
          | ok d m =>
            rw [er] at q
            cases d with
            | un => exact q.elim
            | own es => exact q.elim
            | val d =>
              cases d with
              | bl b =>
                intro v H' G' r mm
                have mm : Dat X.K G' [a] v (.bl b) := mm
                cases mm
                have keep : ∀ b o, H b = some o → b ∉ c.L → H' b = some o := fun b o h n => by
                  have hba : b ≠ a := fun z => by rw [z, z4] at h; cases h
                  exact r.keep b o (x1.keep b o h n) (by simpa using hba)
                have gg : Sub G G' := x1.gg.trans r.gg
                have newG : ∀ b o, G' b = some o → G b = some o ∨ (H b = none ∧ b ∉ c.L) := fun b o h => by
                  rcases r.newG b o h with z | ⟨z, _⟩
                  · exact x1.newG b o z
                  · refine .inr ⟨?_, by rw [hL]; exact List.not_mem_nil⟩
                    cases w : H b with
                    | none => rfl
                    | some u =>
                      have z : H1 b = none := z
                      rw [x1.keep b u w (by rw [hL]; exact List.not_mem_nil)] at z; cases z
                have x : Ext c.L H G H' G' := ⟨keep, gg, newG⟩
                have rr : RRel c H' G' [] := ⟨r.sub, R.nd, R.len, fun n b es h1 _ => by rw [hL] at h1; simp at h1, fun b o h n => keep b o (R.keep b o h n) n, R.gg.trans gg, fun b o h => by
                  rcases newG b o h with z | ⟨z, n⟩
                  · exact R.newG b o z
                  · refine .inr ⟨?_, n⟩
                    cases w : c.H0 b with
                    | none => rfl
                    | some u => rw [R.keep b u w n] at z; cases z⟩
                exact q.now x (R.back x rr) (Dat.bl b)
              | _ => exact q.elim

/-! ### keywords -/
def perm {α : Type} (js : List Nat) (l : List α) : List α := js.filterMap (l[·]?)
def gK {α : Type} (m n : Nat) (js : List Nat) (us ws : List α) : List α := if us.length = m ∧ ws.length = n then perm js (us ++ ws) else []
theorem Vals.perm {vs : List V} {us : List Value} (h : Vals vs us) : ∀ js : List Nat, Vals (perm js vs) (perm js us)
  | [] => .nil
  | j :: js => by
    unfold Q.perm
    rw [List.filterMap_cons, List.filterMap_cons]
    cases e : vs[j]? with
    | none =>
      have e2 : us[j]? = none := List.getElem?_eq_none (by rw [← h.length]; exact List.getElem?_eq_none_iff.mp e)
      rw [e2]
      exact Vals.perm h js
    | some v =>
      obtain ⟨u, hu, r⟩ := h.get e
      rw [hu]
      exact .cons r (Vals.perm h js)
theorem Dats.perm {K : PySem.W.Frag} {G : Hp} {L : List Addr} {vs : List V} {ds : List D} (h : Dats K G L vs ds) : ∀ js : List Nat, Dats K G L (perm js vs) (perm js ds)
  | [] => .nil
  | j :: js => by
    unfold Q.perm
    rw [List.filterMap_cons, List.filterMap_cons]
    cases e : vs[j]? with
    | none =>
      have e2 : ds[j]? = none := List.getElem?_eq_none (by rw [← h.length]; exact List.getElem?_eq_none_iff.mp e)
      rw [e2]
      exact Dats.perm h js
    | some v =>
      obtain ⟨d, hd, r⟩ := h.getV e
      rw [hd]
      exact .cons r (Dats.perm h js)
theorem kb_of {K : PySem.W.Frag} {fd : FuncData} {ps ks : List Str} {m n : Nat} {js : List Nat} (hp : ps.length ≠ 0) (h : ∀ us ws : List Value, us.length = m → ws.length = n → bindArgs fd ⟨us, ks.zip ws⟩ = pure (ps.zip (perm js (us ++ ws)))) : KBinds K fd ps ks (gK m n js) (gK m n js) where
  to s us ws _ hl := by
    unfold gK at hl ⊢
    split at hl
    · rename_i e
      rw [if_pos e]
      exact .of_eq (h us ws e.1 e.2)
    · exact absurd hl.symm hp
  rel {vs us zs ws} r1 r2 := by
    unfold gK
    rw [r1.length, r2.length]
    split
    · exact Vals.perm (r1.append r2) js
    · exact .nil
abbrev DK (X : Cx) (c : Fx) (W : WX) (kws : List Keyword) (f : FA) : Prop := PK X kws (tA c W f)
theorem PK.of {kws : List Keyword} {t t' : TA} (h : PK X kws t) (i : ∀ σ H Q, t' σ H Q → t σ H Q) : PK X kws t' := ⟨fun po pins s σ H Q I q => h.run po pins s σ H Q I (i σ H Q q)⟩
theorem dk_nil : DK X c W [] fNil := PK.of pk_nil fun σ H Q q => by
  obtain ⟨G, env, μ, R, q⟩ := q
  exact q.now Ext.refl R Dats.nil
theorem dk_cons {nm : Option Str} {e : Expr} {kpos : Pos} {kws : List Keyword} {fa : FE} {fr : FA} (ha : DE X c W e fa) (hr : DK X c W kws fr) : DK X c W (⟨nm, e, kpos⟩ :: kws) (fCons fa fr) := PK.of (pk_cons ha hr) fun σ H Q q => by
  obtain ⟨G, env, μ, R, q⟩ := q
  refine ⟨G, env, μ, R, (tG.bind q).imp (fun _ _ _ _ h => h) ?_⟩
  rintro x H1 ⟨G1, μ1, dx, x1, R1, d1, h1⟩
  cases dx with
  | own i => exact h1.elim
  | val d =>
    refine ⟨G1, env, μ1, R1, (tG.bind h1).imp (fun _ _ _ _ h => h) ?_⟩
    rintro xs H2 ⟨G2, μ2, ds, x2, R2, d2, h2⟩
    exact h2.now Ext.refl R2 (Dats.cons (Dat.up x2.gg d1) d2)
/-- f(e, .., k = v, ..): the parameters' order by js -/
def fFnK (p m n : Nat) (js : List Nat) (run : RunF) (fa fk : FA) : FE := fun env μ => (fa env μ).bind fun ds μ => (fk env μ).bind fun es μ => if ds.length = m ∧ es.length = n then
    (if (perm js (ds ++ es)).length = p then (run (perm js (ds ++ es)) μ).nx.bind fun r μ => match r with
      | .val d => .ok (.val d) μ
      | .own ds => .ok (.val (.lst ds)) μ
      | .un => .bad
    else .bad)
  else .bad
theorem run_nx {σ : Sl} {H G : Hp} {env : En} {μ : Mu} {vs : List V} {ds : List D} {run : RunF} {Q : VK} (R : FRel c σ H G env μ) (d : Dats c.K G c.L vs ds)
    (q : tG c W σ H G env (RX c σ) ((run ds μ).nx.bind fun r μ => match r with | .val d => .ok (.val d) μ | .own ds => .ok (.val (.lst ds)) μ | .un => .bad) Q) :
    rG ⟨c.K, c.L, H, G, c.C⟩ (run ds μ) Q E0 := by
  cases e : run ds μ with
  | bad => rw [e] at q; exact q.elim
  | exc z μ' => rw [e] at q; exact q.elim
  | ok r μ' =>
    rw [e] at q
    have h2 : tG c W σ H G env (RX c σ) ((Res.ok r μ').bind fun r μ => match r with | .val d => .ok (.val d) μ | .own ds => .ok (.val (.lst ds)) μ | .un => .bad) Q := q
    exact call_run (W := W) (run := fun _ _ => .ok r μ') (Q := Q) R d h2
theorem de_callK {k p m n : Nat} {js : List Nat} {f : Addr} {fd : FuncData} {ps ks : List Str} {run : RunF} {x : Str} {np pos : Pos} {e : Expr} {es : List Expr} {kws : List Keyword} {fa fk : FA} (G : FnOk X.prog X.w X.K X.mg X.base (L2.CX X.prog X.w) k f fd ps (spD X.K c.C p run)) (hr : Room k X.A) (hm : X.mg x = some (.ref f)) (hk : PySem.W.keepIn X.K (.ref f) = true) (hb : KBinds X.K fd ps ks (gK m n js) (gK m n js))
    (ha : DA X c W (e :: es) fa) (hkw : DK X c W kws fk) (hg : Gl X x := by rfl) (hK : X.K = c.K := by rfl) (hall : (backToKw pos (keywordEach kws X.env)).all (·.1.isSome) = true := by rfl) (hks : (backToKw pos (keywordEach kws X.env)).filterMap (·.1) = ks := by rfl)
    (hdb : (x == ("__debug__" : Str)) = false := by decide) (he : starEach (e :: es) X.env = (false, eval e X.env) :: starEach es X.env := by rfl)
    (hpl : ((backTo pos (starEach (e :: es) X.env)).any (·.1) || (backToKw pos (keywordEach kws X.env)).any (·.1.isNone)) = false := by rfl) :
    DE X c W (.Call (.Name x np) (e :: es) kws pos) (fFnK p m n js run fa fk) := PE.of (pe_callK G hr hg hm hk hb passL ha hkw hall hks hdb he hpl) fun σ H Q q => by
  obtain ⟨G, env, μ, R, q⟩ := q
  refine ⟨G, env, μ, R, (tG.bind q).imp (fun _ _ _ _ h => h) ?_⟩
  rintro vs H1 ⟨G1, μ1, ds, x1, R1, d1, h1⟩
  refine ⟨G1, env, μ1, R1, (tG.bind h1).imp (fun _ _ _ _ h => h) ?_⟩
  rintro zs H2 ⟨G2, μ2, es, x2, R2, d2, h2⟩
  have d1' := Dats.up x2.gg d1
  by_cases hl : ds.length = m ∧ es.length = n
  · rw [if_pos hl] at h2
    by_cases hp : (perm js (ds ++ es)).length = p
    · rw [if_pos hp] at h2
      have hd := Dats.perm (d1'.append d2) js
      have e : gK m n js vs zs = perm js (vs ++ zs) := if_pos ⟨d1'.length.trans hl.1, d2.length.trans hl.2⟩
      rw [e]
      refine ⟨hd.length.trans hp, ?_⟩
      rw [hK]
      exact ⟨G2, c.L, _, μ2, R2.toRRel.entry, hd, run_nx (W := W) R2 hd h2⟩
    · rw [if_neg hp] at h2; exact h2.elim
  · rw [if_neg hl] at h2; exact h2.elim
theorem pe_callK0 {CX : CXT} {k : Nat} {f : Addr} {fd : FuncData} {ps ks : List Str} {sp : Sp} {E : XK} {x : Str} {p pos : Pos} {kws : List Keyword} {tk : TA} {g : List Value → List Value → List Value} {gV : List V → List V → List V} (F : FnOk X.prog X.w X.K X.mg X.base CX k f fd ps sp) (hr : Room k X.A) (hg : Gl X x) (hm : X.mg x = some (.ref f)) (hk : PySem.W.keepIn X.K (.ref f) = true) (hb : KBinds X.K fd ps ks g gV) (hx : Passes CX X E)
    (hkw : PK X kws tk) (hall : (backToKw pos (keywordEach kws X.env)).all (·.1.isSome) = true := by rfl) (hks : (backToKw pos (keywordEach kws X.env)).filterMap (·.1) = ks := by rfl)
    (hdb : (x == ("__debug__" : Str)) = false := by decide) (hpl : ((backTo pos (starEach [] X.env)).any (·.1) || (backToKw pos (keywordEach kws X.env)).any (·.1.isNone)) = false := by rfl) :
    PE X (.Call (.Name x p) [] kws pos) (tCallK sp gV E tNil tk) := by
  refine ⟨fun pins s σ H Q I h => ?_⟩
  refine wpAny_Call_Name_kw (ld_glob I hg hm ?_ hdb)
  refine PySem.W.callWith_KW0 (h₀ := X.base) I.ok.mod.kin hk hall (thn (hkw.run pos pins s σ H _ I h) fun ws s2 ⟨zs, H2, I2, rz, q2⟩ => ⟨I2.kIn, ?_⟩) hpl
  rw [hks]
  exact run_fnk (us := []) (vs := []) F hr hb hx I2 .nil rz q2
theorem de_callK0 {k p n : Nat} {js : List Nat} {f : Addr} {fd : FuncData} {ps ks : List Str} {run : RunF} {x : Str} {np pos : Pos} {kws : List Keyword} {fk : FA} (G : FnOk X.prog X.w X.K X.mg X.base (L2.CX X.prog X.w) k f fd ps (spD X.K c.C p run)) (hr : Room k X.A) (hm : X.mg x = some (.ref f)) (hk : PySem.W.keepIn X.K (.ref f) = true) (hb : KBinds X.K fd ps ks (gK 0 n js) (gK 0 n js))
    (hkw : DK X c W kws fk) (hg : Gl X x := by rfl) (hK : X.K = c.K := by rfl) (hall : (backToKw pos (keywordEach kws X.env)).all (·.1.isSome) = true := by rfl) (hks : (backToKw pos (keywordEach kws X.env)).filterMap (·.1) = ks := by rfl)
    (hdb : (x == ("__debug__" : Str)) = false := by decide) (hpl : ((backTo pos (starEach [] X.env)).any (·.1) || (backToKw pos (keywordEach kws X.env)).any (·.1.isNone)) = false := by rfl) :
    DE X c W (.Call (.Name x np) [] kws pos) (fFnK p 0 n js run fNil fk) := PE.of (pe_callK0 G hr hg hm hk hb passL hkw hall hks hdb hpl) fun σ H Q q => by
  obtain ⟨G, env, μ, R, q⟩ := q
  have h1 : tG c W σ H G env (RX c σ) ((fk env μ).bind fun es μ => if ([] : List D).length = 0 ∧ es.length = n then (if (perm js ([] ++ es)).length = p then (run (perm js ([] ++ es)) μ).nx.bind fun r μ => match r with | .val d => .ok (.val d) μ | .own ds => .ok (.val (.lst ds)) μ | .un => .bad else .bad) else .bad) Q := q
  refine ⟨G, env, μ, R, (tG.bind h1).imp (fun _ _ _ _ h => h) ?_⟩
  rintro zs H2 ⟨G2, μ2, es, x2, R2, d2, h2⟩
  by_cases hl : ([] : List D).length = 0 ∧ es.length = n
  · rw [if_pos hl] at h2
    by_cases hp : (perm js ([] ++ es)).length = p
    · rw [if_pos hp] at h2
      have hd : Dats c.K G2 c.L (perm js ([] ++ zs)) (perm js ([] ++ es)) := Dats.perm d2 js
      have e : gK 0 n js [] zs = perm js ([] ++ zs) := if_pos ⟨rfl, d2.length.trans hl.2⟩
      show spD X.K c.C p run (gK 0 n js [] zs) H2 Q E0
      rw [e]
      refine ⟨hd.length.trans hp, ?_⟩
      rw [hK]
      exact ⟨G2, c.L, _, μ2, R2.toRRel.entry, hd, run_nx (W := W) R2 hd h2⟩
    · rw [if_neg hp] at h2; exact h2.elim
  · rw [if_neg hl] at h2; exact h2.elim
end
end Q

set_option Elab.async false
set_option linter.all false
set_option maxRecDepth 100000
set_option maxHeartbeats 4000000
/-! QM: any sequence walked, names of the module, calls by a def's facts, shared lists, the top. -/
namespace Q
open PySem PySem.Spec PyProof.Rows L2
theorem tk0 {X : Cx} : Takes X W0 := fun _ _ ⟨_, _, _, _, _, _, _, _, _, _, _, _, _, _, _, _, w⟩ => w.elim
section
variable {X : Cx} {c : Fx} {W : WX}
/-! ### a text, a tuple or a list is walked -/
def chars (x : Str) : List D := x.cps.toList.map fun k => .str ⟨#[k]⟩
def fStrI (f : FE) : FI := fun env μ => (f env μ).bind fun x μ => match x with | .val (.str x) => .ok (chars x) μ | _ => .bad
theorem walkD_str {Gd : Hp → Hp → Prop} {x : Str} : WalkD c Gd (Its x) (chars x) where
  go := fun i H G hi _ => by
    have h : i < x.cps.size := by simpa [chars] using hi
    exact h
  stop := fun H G _ => by
    show x.cps.size ≤ (chars x).length
    simp [chars]
  yld := fun i H G v H' hi _ s3 ⟨e, k, hk, ev⟩ => by
    subst e ev
    refine ⟨G, Sub.refl, Sub.refl, s3, fun _ _ z => .inl z, .str ⟨#[k]⟩, ?_, .str _⟩
    have : x.cps.toList[i]? = some k := by rw [Array.getElem?_toList]; exact hk
    show (x.cps.toList.map _)[i]? = _
    rw [List.getElem?_map, this]
    rfl
theorem di_str {tg e : Expr} {f : FE} (he : DE X c W e f) : DI X c W tg e (fStrI f) := PI.of (pi_str he) fun σ H Q q => by
  obtain ⟨G, env, μ, R, q⟩ := q
  refine ⟨G, env, μ, R, (iG.bind q).imp (fun _ _ _ _ h => h) ?_⟩
  rintro v H1 ⟨G1, μ1, x, x1, R1, d1, q1⟩
  split at q1
  · cases d1
    exact ⟨_, rfl, q1.now R1 walkD_str⟩
  · exact q1.elim
def fAny (f : FE) : FI := fun env μ => match f env μ with
  | .ok (.val (.tup ds)) μ => .ok ds μ
  | .ok (.val (.lst ds)) μ => .ok ds μ
  | .ok (.val (.frz ds)) μ => .ok ds μ
  | .ok (.val (.str x)) μ => .ok (chars x) μ
  | .exc e μ => .exc e μ
  | _ => .bad
theorem di_any {tg e : Expr} {f : FE} (he : DE X c W e f) (hk : X.K = c.K := by rfl) : DI X c W tg e (fAny f) := ⟨fun pins s σ H R I q => by
  obtain ⟨G, env, μ, F, q⟩ := q
  have h1 := di_tup (tg := tg) he hk
  have h2 := di_lst (tg := tg) he hk
  have a1 : fSeqI f env μ = fAny f env μ → wpAny (model X.prog X.w) X.A (eval e X.env) _ X.xe s := fun e => h1.run pins s σ H R I ⟨G, env, μ, F, e ▸ q⟩
  have a2 : fLstI f env μ = fAny f env μ → wpAny (model X.prog X.w) X.A (eval e X.env) _ X.xe s := fun e => h2.run pins s σ H R I ⟨G, env, μ, F, e ▸ q⟩
  have h3 := di_str (tg := tg) he
  have a3 : fStrI f env μ = fAny f env μ → wpAny (model X.prog X.w) X.A (eval e X.env) _ X.xe s := fun e => h3.run pins s σ H R I ⟨G, env, μ, F, e ▸ q⟩
  unfold fStrI fAny at a3
  unfold fSeqI fAny at a1
  unfold fLstI fAny at a2
  unfold fAny at q
  cases ef : f env μ with
  | bad => rw [ef] at q; exact q.elim
  | exc z m => rw [ef] at a1; exact a1 rfl
  | ok x m =>
    rw [ef] at a1 a2 a3 q
    cases x with
    | own i => exact q.elim
    | val d =>
      cases d with
      | tup ds => exact a1 rfl
      | lst ds => exact a2 rfl
      | frz ds => exact a2 rfl
      | str x => exact a3 rfl
      | _ => exact q.elim⟩
/-! ### a < b < c as a test -/
theorem ch_of {r1 r2 : R2} {g g' : Int → Int → Bool} {fa fb fc : FE} {σ : Sl} {H : Hp} {Q : VK} (q : tE c W (fCh g g' fa fb fc) σ H Q) : tChain (rI0 fun i j => .bl (g i j)) (rI0 fun i j => .bl (g' i j)) (tE c W fa) (tE c W fb) (tE c W fc) σ H Q := by
  obtain ⟨G, env, μ, R, q⟩ := q
  refine ⟨G, env, μ, R, (tG.bind q).imp (fun _ _ _ _ h => h) ?_⟩
  rintro x H1 ⟨G1, μ1, dx, x1, R1, d1, h1⟩
  refine ⟨G1, env, μ1, R1, (tG.bind h1).imp (fun _ _ _ _ h => h) ?_⟩
  rintro y H2 ⟨G2, μ2, dy, x2, R2, d2, h2⟩
  have d1' := d1.up x2.gg
  split at h2
  · cases d1'; cases d2
    refine ⟨_, _, rfl, rfl, _, rfl, ?_⟩
    rename_i i j
    cases e : g i j with
    | true =>
      rw [e] at h2
      refine (if_pos rfl).mpr ?_
      refine ⟨G2, env, μ2, R2, (tG.bind h2).imp (fun _ _ _ _ h => h) ?_⟩
      rintro z H3 ⟨G3, μ3, dz, x3, R3, d3, h3⟩
      split at h3
      · cases d3
        exact ⟨_, _, rfl, rfl, h3.now Ext.refl R3 (show DatX c G3 σ _ (.val (.bl _)) from Dat.bl _)⟩
      · exact h3.elim
    | false =>
      rw [e] at h2
      refine (if_neg Bool.false_ne_true).mpr ?_
      exact h2.now Ext.refl R2 (show DatX c G2 σ _ (.val (.bl _)) from Dat.bl _)
  · exact h2.elim
def cmpI : CmpOp → Int → Int → Bool
  | .Lt, i, j => decide (i < j)
  | .LtE, i, j => decide (i ≤ j)
  | .Gt, i, j => decide (j < i)
  | .GtE, i, j => decide (j ≤ i)
  | _, _, _ => false
def isOrd : CmpOp → Bool
  | .Lt | .LtE | .Gt | .GtE => true
  | _ => false
theorem op_ord {op : CmpOp} (h : isOrd op = true) : OpR X (compareOp op) (rI0 fun i j => .bl (cmpI op i j)) := by
  cases op with
  | Lt => exact op_lt
  | LtE => exact op_le
  | Gt => exact op_gt
  | GtE => exact op_ge
  | _ => cases h
theorem de_ch {a b d : Expr} {op op' : CmpOp} {pos : Pos} {fa fb fc : FE} (ha : DE X c W a fa) (hb : DE X c W b fb) (hc : DE X c W d fc) (h1 : isOrd op = true := by rfl) (h2 : isOrd op' = true := by rfl) (hm : lastMarks [op, op'] [b, d] = false := by with_unfolding_all rfl) : DE X c W (.Compare a [op, op'] [b, d] pos) (fCh (cmpI op) (cmpI op') fa fb fc) :=
  PE.of (pe_chain (op_ord h1) (op_ord h2) ha hb hc hm) fun _ _ _ q => ch_of (r1 := rI0 fun i j => .bl (cmpI op i j)) (r2 := rI0 fun i j => .bl (cmpI op' i j)) q
theorem dt_ch {a b d : Expr} {op op' : CmpOp} {pos : Pos} {fa fb fc : FE} (ha : DE X c W a fa) (hb : DE X c W b fb) (hc : DE X c W d fc) (h1 : isOrd op = true := by rfl) (h2 : isOrd op' = true := by rfl) (hm : lastMarks [op, op'] [b, d] = false := by with_unfolding_all rfl) : DT X c W (.Compare a [op, op'] [b, d] pos) (fTB (fCh (cmpI op) (cmpI op') fa fb fc)) :=
  dt_of (t := tChain (rI0 fun i j => .bl (cmpI op i j)) (rI0 fun i j => .bl (cmpI op' i j)) (tE c W fa) (tE c W fb) (tE c W fc)) (pt_chain (op_ord h1) (op_ord h2) ha hb hc hm) fun _ _ _ q => ch_of (r1 := rI0 fun i j => .bl (cmpI op i j)) (r2 := rI0 fun i j => .bl (cmpI op' i j)) q
/-! ### list or list, both new -/
def fOrN (fa fb : FE) : FE := fun env μ => (fa env μ).bind fun x μ => match x with
  | .val (.lst ds) => if ds.isEmpty then fb env μ else .ok (.val (.lst ds)) μ
  | _ => .bad
theorem dn_or {a b : Expr} {pos : Pos} {fa fb : FE} (ha : DN X c W a fa) (hb : DN X c W b fb) : DN X c W (.BoolOp .Or [a, b] pos) (fOrN fa fb) := PE.of (pe_orT ha (pe_one hb)) fun σ H Q q => by
  obtain ⟨G, env, μ, R, q⟩ := q
  refine ⟨G, env, μ, R, (tG.bind q).imp (fun _ _ _ _ h => h) ?_⟩
  rintro x H1 ⟨G1, μ1, dx, x1, R1, ⟨a, vs, ds, e1, e2, z1, z2, z3, z4, z5⟩, h1⟩
  subst e1 e2
  dsimp only at h1
  have tr : ∀ b, ds.isEmpty = !b → TruV X.K (.ref a) H1 b := fun b e => .inl ⟨vs, SqL.of z1, by rw [empty_eq z5, e, Bool.not_not]⟩
  cases he : ds.isEmpty with
  | true =>
    rw [if_pos he] at h1
    refine ⟨false, tr false he, (if_neg Bool.false_ne_true).mpr ⟨G1, env, μ1, R1, h1.imp (fun _ _ _ _ z => z.base x1) fun _ _ z => z⟩⟩
  | false =>
    rw [if_neg (by rw [he]; exact Bool.false_ne_true)] at h1
    exact ⟨true, tr true he, (if_pos rfl).mpr (h1.now Ext.refl R1 ⟨a, vs, ds, rfl, rfl, z1, z2, z3, z4, z5⟩)⟩
/-! ### names of the module -/
def Gc (K : PySem.W.Frag) (mg : Str → Option Value) (x : Str) (d : D) : Prop := ∃ u v, mg x = some u ∧ RelV v u ∧ ∀ G L, Dat K G L v d
theorem gc_int {K : PySem.W.Frag} {mg : Str → Option Value} {x : Str} {i : Int} {t : Tok} (h : mg x = some (.int i t)) : Gc K mg x (.int i) := ⟨_, .int i, h, ⟨t, rfl⟩, fun _ _ => .int i⟩
theorem gc_str {K : PySem.W.Frag} {mg : Str → Option Value} {x y : Str} {t : Tok} (h : mg x = some (.str y t)) : Gc K mg x (.str y) := ⟨_, .str y, h, ⟨t, rfl⟩, fun _ _ => .str y⟩
theorem gc_tup0 {K : PySem.W.Frag} {mg : Str → Option Value} {x : Str} {a : Addr} {o : Obj} {n : Nat} (h : mg x = some (.ref a)) (l : K.lookup a = some o) (hc : o.cls = .type "tuple") (hd : o.data = .seq #[] n) : Gc K mg x (.tup []) :=
  ⟨_, .ref a, h, rfl, fun _ _ => .tup (.inr ⟨o, #[], n, l, hc, hd, Nat.zero_le _, .nil⟩) .nil⟩
theorem de_gc {x : Str} {d : D} {pos : Pos} (h : Gc X.K X.mg x d) (hg : Gl X x := by rfl) (hk : X.K = c.K := by rfl) (hd : (x == ("__debug__" : Str)) = false := by decide) : DE X c W (.Name x pos) (fC d) := by
  obtain ⟨u, v, hm, r, hv⟩ := h
  exact PE.of (pe_glob hg hm r hd) fun σ H Q q => by
    obtain ⟨G, env, μ, R, q⟩ := q
    have hd : Dat c.K G c.L v d := by rw [← hk]; exact hv _ _
    exact q.now Ext.refl R hd
end
/-! ### a def's facts -/
structure Cal (P : Program) (w : World) (K : PySem.W.Frag) (mg : Str → Option Value) (base : Heap) (C : Nat → Addr) (k : Nat) (x : Str) (st : Stmt) (ps : List Str) (n : Nat) (run : RunF) : Prop where
  ex : ∃ (f : Addr) (fd : FuncData), Fun K x x st f fd ∧ FnOk P w K mg base (L2.CX P w) k f fd ps (spD K C n run) ∧ mg x = some (.ref f) ∧ PySem.W.keepIn K (.ref f) = true ∧ Binds K fd ps []
/-- .. with keywords -/
structure CalK (P : Program) (w : World) (K : PySem.W.Frag) (mg : Str → Option Value) (base : Heap) (C : Nat → Addr) (k : Nat) (x : Str) (ks : List Str) (p m n : Nat) (js : List Nat) (run : RunF) : Prop where
  ex : ∃ (f : Addr) (fd : FuncData) (ps : List Str), FnOk P w K mg base (L2.CX P w) k f fd ps (spD K C p run) ∧ mg x = some (.ref f) ∧ PySem.W.keepIn K (.ref f) = true ∧ KBinds K fd ps ks (gK m n js) (gK m n js)
section
variable {X : Cx} {c : Fx} {W : WX} {k n : Nat} {x : Str} {st : Stmt} {ps : List Str} {run : RunF} {p pos : Pos} {e : Expr} {es : List Expr} {fa : FA}
theorem de_cal (h : Cal X.prog X.w X.K X.mg X.base c.C k x st ps n run) (hr : Room k X.A) (tk : Takes X W) (ha : DA X c W (e :: es) fa) (hg : Gl X x := by rfl) (hK : X.K = c.K := by rfl) (hdb : (x == ("__debug__" : Str)) = false := by decide) (he : starEach (e :: es) X.env = (false, eval e X.env) :: starEach es X.env := by rfl) (hpl : (backTo pos (starEach es X.env)).any (·.1) = false := by rfl) :
    DE X c W (.Call (.Name x p) (e :: es) [] pos) (fFn n run fa) := by
  obtain ⟨f, fd, _, G, hm, hk, hb⟩ := h.ex
  exact de_call G hr hm hk hb tk ha hg hK hdb he hpl
theorem dn_cal (h : Cal X.prog X.w X.K X.mg X.base c.C k x st ps n run) (hr : Room k X.A) (tk : Takes X W) (ha : DA X c W (e :: es) fa) (hg : Gl X x := by rfl) (hK : X.K = c.K := by rfl) (hdb : (x == ("__debug__" : Str)) = false := by decide) (he : starEach (e :: es) X.env = (false, eval e X.env) :: starEach es X.env := by rfl) (hpl : (backTo pos (starEach es X.env)).any (·.1) = false := by rfl) :
    DN X c W (.Call (.Name x p) (e :: es) [] pos) (fFnN n run fa) := by
  obtain ⟨f, fd, _, G, hm, hk, hb⟩ := h.ex
  exact dn_call G hr hm hk hb tk ha hg hK hdb he hpl
theorem de_cal0 (h : Cal X.prog X.w X.K X.mg X.base c.C k x st ps 0 run) (hr : Room k X.A) (hg : Gl X x := by rfl) (hK : X.K = c.K := by rfl) (hdb : (x == ("__debug__" : Str)) = false := by decide) : DE X c W (.Call (.Name x p) [] [] pos) (fFn0 run) := by
  obtain ⟨f, fd, _, G, hm, hk, hb⟩ := h.ex
  exact de_call0 (n := 0) G hr hm hk hb hg hK hdb
theorem de_calBox {fe : FE} (h : Cal X.prog X.w X.K X.mg X.base c.C k x st ps 1 run) (hr : Room k X.A) (tk : Takes X W) (ha : DN X c W e fe) (hg : Gl X x := by rfl) (hK : X.K = c.K := by rfl) (hdb : (x == ("__debug__" : Str)) = false := by decide) (hs : starEach [e] X.env = (false, eval e X.env) :: starEach [] X.env := by rfl) (hpl : (backTo pos (starEach [] X.env)).any (·.1) = false := by rfl) :
    DE X c W (.Call (.Name x p) [e] [] pos) (fBox run fe) := by
  obtain ⟨f, fd, _, G, hm, hk, hb⟩ := h.ex
  exact de_box G hr hm hk hb tk ha hg hK hdb hs hpl
theorem de_calK {m q : Nat} {js : List Nat} {ks : List Str} {kws : List Keyword} {fk : FA} (h : CalK X.prog X.w X.K X.mg X.base c.C k x ks n m q js run) (hr : Room k X.A) (ha : DA X c W (e :: es) fa) (hkw : DK X c W kws fk) (hg : Gl X x := by rfl) (hK : X.K = c.K := by rfl) (hall : (backToKw pos (keywordEach kws X.env)).all (·.1.isSome) = true := by rfl) (hks : (backToKw pos (keywordEach kws X.env)).filterMap (·.1) = ks := by rfl)
    (hdb : (x == ("__debug__" : Str)) = false := by decide) (he : starEach (e :: es) X.env = (false, eval e X.env) :: starEach es X.env := by rfl) (hpl : ((backTo pos (starEach (e :: es) X.env)).any (·.1) || (backToKw pos (keywordEach kws X.env)).any (·.1.isNone)) = false := by rfl) :
    DE X c W (.Call (.Name x p) (e :: es) kws pos) (fFnK n m q js run fa fk) := by
  obtain ⟨f, fd, ps, G, hm, hk, hb⟩ := h.ex
  exact de_callK G hr hm hk hb ha hkw hg hK hall hks hdb he hpl
theorem de_calK0 {q : Nat} {js : List Nat} {ks : List Str} {kws : List Keyword} {fk : FA} (h : CalK X.prog X.w X.K X.mg X.base c.C k x ks n 0 q js run) (hr : Room k X.A) (hkw : DK X c W kws fk) (hg : Gl X x := by rfl) (hK : X.K = c.K := by rfl) (hall : (backToKw pos (keywordEach kws X.env)).all (·.1.isSome) = true := by rfl) (hks : (backToKw pos (keywordEach kws X.env)).filterMap (·.1) = ks := by rfl)
    (hdb : (x == ("__debug__" : Str)) = false := by decide) (hpl : ((backTo pos (starEach [] X.env)).any (·.1) || (backToKw pos (keywordEach kws X.env)).any (·.1.isNone)) = false := by rfl) :
    DE X c W (.Call (.Name x p) [] kws pos) (fFnK n 0 q js run fNil fk) := by
  obtain ⟨f, fd, ps, G, hm, hk, hb⟩ := h.ex
  exact de_callK0 G hr hm hk hb hkw hg hK hall hks hdb hpl
end
/-! ### the top -/
structure Df (K : PySem.W.Frag) (mg : Str → Option Value) (x : Str) (st : Stmt) (ps : List Str) : Prop where
  ex : ∃ (f : Addr) (fd : FuncData), Fun K x x st f fd ∧ mg x = some (.ref f) ∧ Binds K fd ps []
theorem Df.mk' {K : PySem.W.Frag} {h : Heap} {mg : Str → Option Value} {x : Str} {st : Stmt} {ps : List Str} {f : Addr} {oc : Value} {od an : Option Addr} {osl : Array (Option Value)} {kV doc pm cdv ct : Value} (X : K.In h) (G : h.Ns mainGlobals mg) (a : PySem.W.nsIn K mainGlobals x = some (some (.ref f)))
    (l : K.lookup f = some ⟨oc, od, .func (PySem.W.fnOf x x (defArgs st) (defBody st) (defScope st) .none kV doc pm an cdv ct), osl⟩) (c : PySem.W.codeIn K cdv x = true) (k : PySem.W.keepIn K (.ref f) = true)
    (hb : ∀ (kV doc pm : Value) (an : Option Addr) (cdv ct : Value) (us : List Value), us.length = ps.length → bindArgs (PySem.W.fnOf x x (defArgs st) (defBody st) (defScope st) .none kV doc pm an cdv ct) ⟨us, []⟩ = pure (ps.zip us)) : Df K mg x st ps := by
  have F := fun_mk (st := st) l c k
  exact ⟨f, _, F, PySem.W.mg_of X G a, F.binds (ps := ps) hb⟩
theorem fn_zero {P : Program} {w : World} {K : PySem.W.Frag} {mg : Str → Option Value} {base : Heap} {C : Nat → Addr} {f : Addr} {fd : FuncData} {ps : List Str} : FnOk P w K mg base (L2.CX P w) 0 f fd ps (spD K C ps.length fun _ _ => .bad) := by
  have no : ∀ vs H Q E, ¬ spD K C ps.length (fun _ _ => .bad) vs H Q E := fun vs H Q E h => by
    obtain ⟨_, _, _, _, _, _, _, h⟩ := h
    exact h
  exact ⟨fun vs H Q E h => absurd h (no vs H Q E), fun A outer s H args us vs Q E _ _ _ _ h => absurd h (no vs H Q E)⟩
theorem Df.cal0 {P : Program} {w : World} {K : PySem.W.Frag} {mg : Str → Option Value} {base : Heap} {C : Nat → Addr} {x : Str} {st : Stmt} {ps : List Str} (h : Df K mg x st ps) : Cal P w K mg base C 0 x st ps ps.length (fun _ _ => .bad) := by
  obtain ⟨f, fd, F, hm, hb⟩ := h.ex
  exact ⟨f, fd, F, fn_zero, hm, F.kp, hb⟩
theorem Df.calS {P : Program} {w : World} {K : PySem.W.Frag} {mg : Str → Option Value} {base : Heap} {C : Nat → Addr} {x : Str} {st : Stmt} {ps N : List Str} {k : Nat} {fb : FS} (h : Df K mg x st ps) (S : FnScope N ps (defScope st))
    (hb : ∀ (f : Addr) (cdv : Value) (A : Around) (outer : List Env) (s : Shared) (H : Hp) (E : XK) (L : List Addr) (H0 G0 : Hp), Room k (A.deeper (envOfC x (defScope st) s.heap.objs.size f cdv)) →
      DSs (cxOf (L2.CX P w) P w K mg base N x (defScope st) f cdv A outer s H E) ⟨K, L, H0, G0, C⟩ (fun cls d _ H => E cls d H) (defBody st) fb) : Cal P w K mg base C (k + 1) x st ps ps.length (runOf N.length fb) := by
  obtain ⟨f, fd, F, hm, hB⟩ := h.ex
  refine ⟨f, fd, F, fn_ok F S fun cdv A outer s H E c hK hC hr => ?_, hm, F.kp, hB⟩
  obtain ⟨K', L, H0, G0, C'⟩ := c
  dsimp only at hK hC
  subst hK hC
  exact hb f cdv A outer s H E L H0 G0 hr
theorem Cal.kw {P : Program} {w : World} {K : PySem.W.Frag} {mg : Str → Option Value} {base : Heap} {C : Nat → Addr} {x : Str} {k p m n : Nat} (js : List Nat) {ks ps : List Str} {st : Stmt} {run : RunF} (hc : Cal P w K mg base C k x st ps p run) (hp : ps.length ≠ 0)
    (hb : ∀ (kV doc pm : Value) (an : Option Addr) (cdv ct : Value) (us ws : List Value), us.length = m → ws.length = n → bindArgs (PySem.W.fnOf x x (defArgs st) (defBody st) (defScope st) .none kV doc pm an cdv ct) ⟨us, ks.zip ws⟩ = pure (ps.zip (perm js (us ++ ws)))) : CalK P w K mg base C k x ks p m n js run := by
  obtain ⟨f, fd, F, G, hm, kp, hB⟩ := hc.ex
  obtain ⟨oc, od, kV, doc, pm, an, cdv, ct, osl, rfl, lk, hcd⟩ := F.ex
  exact ⟨f, _, ps, G, hm, kp, kb_of hp (hb kV doc pm an cdv ct)⟩
end Q

set_option Elab.async false
set_option linter.all false
set_option maxRecDepth 100000
set_option maxHeartbeats 4000000
/-! QN: own exceptions by their facts, three names at once. -/
namespace Q
open PySem PySem.Spec PyProof.Rows L2
structure Xc (K : PySem.W.Frag) (mg : Str → Option Value) (x : Str) (C : Addr) : Prop where
  gC : mg x = some (.ref C)
  kC : PySem.W.keepIn K (.ref C) = true
  bC : PySem.W.subIn K (.ref C) (.type "BaseException") = some true
  tC : PySem.W.typeIn K (.ref C) = some (.type "type")
  ex : PySem.W.exmOne K (.ref C) (.ref C) = some true
  own : ∃ B newId initId bmB, ExcBaseFacts B newId initId bmB ∧ PySem.W.excIn K C bmB newId = true
section
variable {X : Cx} {c : Fx} {W : WX}
theorem ds_raiseX (j : Nat) {x : Str} {p pos pos' : Pos} (h : Xc X.K X.mg x (c.C j)) (tk : Takes X W) (hc : X.calm = true := by rfl) (hg : Gl X x := by rfl) (hdb : (x == ("__debug__" : Str)) = false := by decide) :
    DS X c W (.Raise (some (.Call (.Name x p) [] [] pos)) none pos') (fRaise j) := by
  obtain ⟨B, newId, initId, bmB, F, q⟩ := h.own
  exact ds_raise hc tk F q h.gC h.kC (raises_own h.bC h.tC) rfl hg hdb
theorem ds_tryX (j : Nat) {x : Str} {body suite : List Stmt} {b₀ : Stmt} {np pos pos' : Pos} {fb fs : FS} (h : Xc X.K X.mg x (c.C j)) (tk : Takes X W)
    (hb : ∀ (W : WX) (pn : List (Addr × Obj)) (xe : Value → Shared → Prop), Takes (X.tr pn xe) W → PassesOwn (model X.prog X.w) X.A X.env xe → DSs (X.tr pn xe) c W body fb)
    (hsu : ∀ (a : Addr) (pn : List (Addr × Obj)), DSs (X.suite a pn) c W0 (b₀ :: suite) fs) (hg : Gl X x := by rfl) (hdb : (x == ("__debug__" : Str)) = false := by decide) (hs : X.stack = X.env :: X.outer := by rfl) (hf : X.env.frame = some X.env.locals := by rfl) :
    DS X c W (.Try body [.ExceptHandler (some (.Name x np)) none (b₀ :: suite) pos'] [] [] pos) (fTry [j] j fb fs) :=
  ds_try (cs := [j]) (k := j) hs hf ⟨hg, hdb, .inl h.gC⟩ tk (fun i hi => by
    have e : i = j := List.mem_singleton.mp hi
    subst e
    rw [h.ex]
    simp) hb hsu
/-- a, b, d = x, y, z: each side told as one to be stored -/
def fPar3 (i j l : Nat) (f g h : FM) : FS := fun env μ => (f env μ).to env fun d μ => (g env μ).to env fun e μ => (h env μ).to env fun u μ => .nxt (((env.set i d).set j e).set l u) μ
theorem RM.on {H H1 G1 H2 G2 : Hp} {v : V} {d : EV} (x : Ext c.L H1 G1 H2 G2) (h : RM c H H1 G1 v d) : RM c H H2 G2 v d := by
  cases d with
  | un => exact h
  | val d => exact Dat.up x.gg h
  | own ds =>
    obtain ⟨a, vs, e1, z1, z2, z3, z4, z5⟩ := h
    refine ⟨a, vs, e1, x.keep _ _ z1 z3, ?_, z3, z4, z5.up x.gg⟩
    cases q : G2 a with
    | none => rfl
    | some o =>
      rcases x.newG a o q with z | ⟨z, _⟩
      · rw [z2] at z; cases z
      · rw [z1] at z; cases z
theorem ds_par3 {i j l : Nat} {x y z : Str} {a b d : Expr} {f g h : FM} {px py pz pt : Pos} {kt k2 pt2 pos} (hc : X.calm = true) (hN : X.N.Nodup) (ha : DM X c W a f) (hb : DM X c W b g) (hd : DM X c W d h) (hi : X.N[i]? = some x := by rfl) (hj : X.N[j]? = some y := by rfl) (hl : X.N[l]? = some z := by rfl) (hij : i ≠ j := by decide) (hil : i ≠ l := by decide) (hjl : j ≠ l := by decide)
    (hx : X.env.scope.names.lookup x = some .local := by rfl) (hy : X.env.scope.names.lookup y = some .local := by rfl) (hz : X.env.scope.names.lookup z = some .local := by rfl)
    (hs1 : starEach [a, b, d] X.env = (false, eval a X.env) :: starEach [b, d] X.env := by rfl) (hs2 : starEach [b, d] X.env = (false, eval b X.env) :: starEach [d] X.env := by rfl) (hs3 : starEach [d] X.env = (false, eval d X.env) :: starEach [] X.env := by rfl)
    (hw : swappedStores [.Tuple [.Name x px, .Name y py, .Name z pz] kt pt] (.Tuple [a, b, d] k2 pt2) X.env = pure (some [x, y, z]) := by rfl)
    (hs : swapsWithSole [.Tuple [.Name x px, .Name y py, .Name z pz] kt pt] (.Tuple [a, b, d] k2 pt2) pos.line X.env = pure false := by rfl) : DS X c W (.Assign [.Tuple [.Name x px, .Name y py, .Name z pz] kt pt] (.Tuple [a, b, d] k2 pt2) pos) (fPar3 i j l f g h) :=
  PS.ofI (ps_par3 hc hN hi hj hl hij hil hjl hx hy hz (pa_cons ha (pa_cons hb (pa_cons hd pa_nil hs3) hs2) hs1) hw hs) fun D σ H hle q => by
  have lt : ∀ {k : Nat} {n : Str}, X.N[k]? = some n → k < σ.length := fun e => by rw [hle]; exact (List.getElem?_eq_some_iff.mp e).1
  obtain ⟨G, env, μ, R, q⟩ := q
  refine ⟨G, env, μ, R, (sG.to R q).imp (fun _ _ _ _ h => h) ?_⟩
  rintro v H1 ⟨G1, μ1, d1, x1, R1, m1, q1⟩
  refine ⟨G1, env, μ1, R1, (sG.to R1 q1).imp (fun _ _ _ _ h => h) ?_⟩
  rintro w H2 ⟨G2, μ2, d2, x2, R2, m2, q2⟩
  refine ⟨G2, env, μ2, R2, (sG.to R2 q2).imp (fun _ _ _ _ h => h) ?_⟩
  rintro u H3 ⟨G3, μ3, d3, x3, R3, m3, q3⟩
  refine ⟨v, w, u, rfl, q3 _ _ _ Sub.refl ?_⟩
  have m13 : RM c H H3 G3 v d1 := RM.on (x2.trans x3) m1
  have m12 : RM c H H2 G2 v d1 := RM.on x2 m1
  have m23 : RM c H1 H3 G3 w d2 := RM.on x3 m2
  -- the values are stored one behind another
  have F0 : FRel c (σ.set i (some v)) H1 G1 (env.set i d1) μ1 := R.store R1 m1 i (lt hi)
  have F1 : FRel c (σ.set i (some v)) H2 G2 (env.set i d1) μ2 := R.store R2 m12 i (lt hi)
  have F2 : FRel c (σ.set i (some v)) H3 G3 (env.set i d1) μ3 := R.store R3 m13 i (lt hi)
  have K1 : FRel c ((σ.set i (some v)).set j (some w)) H2 G2 ((env.set i d1).set j d2) μ2 := F0.store F1 m2 j (by rw [List.length_set]; exact lt hj)
  have K2 : FRel c ((σ.set i (some v)).set j (some w)) H3 G3 ((env.set i d1).set j d2) μ3 := F0.store F2 m23 j (by rw [List.length_set]; exact lt hj)
  exact K1.store K2 m3 l (by rw [List.length_set, List.length_set]; exact lt hl)
end
end Q

set_option Elab.async false
set_option linter.all false
set_option maxRecDepth 100000
set_option maxHeartbeats 4000000
/-! QO0: the order of data. -/
namespace Q
open PySem PySem.Spec PyProof.Rows L2
def ltN : List Nat → List Nat → Bool
  | _, [] => false
  | [], _ :: _ => true
  | x :: xs, y :: ys => if x = y then ltN xs ys else decide (x < y)
mutual
/-- x < y, of data that may be compared -/
def D.lt : D → D → Bool
  | .int i, .int j => decide (i < j)
  | .str x, .str y => ltN x.cps.toList y.cps.toList
  | .tup xs, .tup ys => D.lts xs ys
  | _, _ => false
def D.lts : List D → List D → Bool
  | _, [] => false
  | [], _ :: _ => true
  | x :: xs, y :: ys => if D.eq x y then D.lts xs ys else D.lt x y
end
mutual
/-- they may be compared -/
def D.cmp : D → D → Bool
  | .int _, .int _ => true
  | .str _, .str _ => true
  | .tup xs, .tup ys => D.cmps xs ys
  | _, _ => false
def D.cmps : List D → List D → Bool
  | _, [] => true
  | [], _ :: _ => true
  | x :: xs, y :: ys => D.cmp x y && D.cmps xs ys
end
def ins (x : D) : List D → List D
  | [] => [x]
  | y :: l => if D.lt y x then y :: ins x l else x :: y :: l
def isort : List D → List D
  | [] => []
  | x :: l => ins x (isort l)
def sortable (ds : List D) : Bool := ds.all (fun d => ds.all fun e => D.cmp d e) && D.plains ds && decide (D.deps ds ≤ 60)
def fSorted (f : FE) : FE := fun env μ => (f env μ).bind fun x μ => match sq env μ x with
  | some (.lst ds) => if sortable ds && decide (ds.length ≤ LIM) then .ok (.val (.lst (isort ds))) μ else .bad
  | _ => .bad
/-- each once, the first of them stays -/
def dedup : List D → List D
  | [] => []
  | x :: l => x :: (dedup l).filter fun y => !D.eq x y
def fSset (f : FE) : FE := fun env μ => (f env μ).bind fun x μ => match sq env μ x with
  | some (.lst ds) => if sortable ds && decide (ds.length ≤ LIM) then .ok (.val (.lst (isort (dedup ds)))) μ else .bad
  | _ => .bad
def fEnz (f g : FE) : FI := fun env μ => (fZp f g env μ).bind fun ds μ => .ok (enumD 0 ds) μ
end Q

set_option Elab.async false
set_option linter.all false
set_option maxRecDepth 100000
set_option maxHeartbeats 4000000
/-! QP: enumerate over zip. -/
namespace Q
open PySem PySem.Spec PyProof.Rows L2
/-- the zip at z, whatever it knows of its last tuple -/
def ZAt (m : Heap) (z TI TO : Addr) : Prop := ∃ (f : Value) (b : Bool), (f = .none ∨ ∃ T : Nat, f = rawInt T) ∧ m.get? z = some { cls := .type "zip", dict := none, data := .fields #[f, .bool b, .bool false, .ref TI, .ref TO], slots := #[] }
section
variable {prog : Program} {w : World} {A : Around} {E : Value → Shared → Prop} {s : Shared} {z TI TO i1 i2 : Addr} {fa fb : List Addr} {na nb i : Nat} {Pa Pb : Nat → Value → Prop} {Sa Sb : Nat → Heap → Prop}
theorem z_free {Q : Bool → Shared → Prop} (hz : ZAt s.heap z TI TO) (yes : Q true s) (no : ∀ m, ZAt m z TI TO → Heap.SameBut z s.heap m → Q false { s with heap := m }) :
    wpAny (model prog w) A (Builtin.SmallTypes.ownedTupleIsFree (.ref z)) Q E s := by
  obtain ⟨f, b, hf, hg⟩ := hz
  unfold Builtin.SmallTypes.ownedTupleIsFree
  refine wpAny_bind (wpAny_field hg rfl (x := f) rfl ?_)
  rcases hf with e | ⟨T, e⟩
  · subst e
    exact wpAny_pure yes
  · subst e
    show wpAny _ _ (loadIfAlive ((T : Int).toNat) >>= _) _ _ s
    rw [Int.toNat_natCast]
    have go : ∀ r : Option Obj, s.heap.get? T = r → wpAny (model prog w) A (loadIfAlive T) (fun r' s' => r' = r ∧ s' = s) E s := fun r er => by
      have h' : (fun r' s' => r' = r ∧ s' = s) (s.heap.get? T) s := ⟨er, rfl⟩
      exact fun _ _ _ => h'
    refine wpAny_bind (thn (go _ rfl) ?_)
    rintro r s' ⟨er, rfl⟩
    subst er
    cases s'.heap.get? T with
    | none =>
      simp only [Option.isNone_none, if_true]
      exact wpAny_pure yes
    | some o =>
      simp only [Option.isNone_some, Bool.false_eq_true, if_false]
      refine wpAny_bind (wpAny_field hg rfl (x := .bool b) rfl ?_)
      cases b with
      | true =>
        rw [if_neg (show ¬ ((Value.bool true != Value.bool true) = true) by decide)]
        exact wpAny_pure (no _ ⟨_, true, .inr ⟨T, rfl⟩, hg⟩ (Heap.SameBut.refl _ _))
      | false =>
        rw [if_pos (show (Value.bool false != Value.bool true) = true by decide)]
        exact wpAny_bind (wpAny_setField_rec hg (by simp) fun m hm sm => wpAny_pure (no m ⟨_, true, .inr ⟨T, rfl⟩, hm⟩ sm))
/-- what stands behind one more pair -/
structure ZOn (z TI TO i1 i2 : Addr) (Sa Sb : Nat → Heap → Prop) (i : Nat) (m m' : Heap) (x y : Value) : Prop where
  zip : ZAt m' z TI TO
  ti : IsTupOf2 m' TI (.ref i1) (.ref i2)
  to : ∃ a b, IsTupOf2 m' TO a b
  sa : Sa (i + 1) m'
  sb : Sb (i + 1) m'
  new : IsTupOf2 m' m.objs.size x y
  big : m.objs.size + 1 ≤ m'.objs.size
  kp : ∀ c o, c ≠ z → c ≠ TO → c ≠ i1 → c ≠ i2 → m.get? c = some o → m'.get? c = some o
theorem z_next {Q : Value → Shared → Prop} (S : ZipSep2 z TI TO i1 i2 fa fb) (DA : Draws prog w A i1 fa na Pa Sa) (DB : Draws prog w A i2 fb nb Pb Sb)
    (hz : ZAt s.heap z TI TO) (hTI : IsTupOf2 s.heap TI (.ref i1) (.ref i2)) (hTO : ∃ a b, IsTupOf2 s.heap TO a b) (ha : Sa i s.heap) (hb : Sb i s.heap) (la : i < na) (lb : i < nb)
    (hQ : ∀ x y m tk, Pa i x → Pb i y → ZOn z TI TO i1 i2 Sa Sb i s.heap m x y → Q (.ref s.heap.objs.size) { s with heap := m, toks := tk }) :
    wpAny (model prog w) A (Builtin.«zip.__next__» ⟨[.ref z], []⟩) (fun r s' => ∃ v, r = .done (.ret v) ∧ Q v s') E s := by
  obtain ⟨m0, gg, dd, t0, os⟩ := s
  have hz0 := hz
  obtain ⟨f, b, hf, hg⟩ := hz
  obtain ⟨oa, ob, hTO⟩ := hTO
  show wpAny _ _ (field (.ref z) 2 >>= _) _ _ ⟨m0, gg, dd, t0, os⟩
  refine wpAny_bind (wpAny_field hg rfl (x := .bool false) rfl ?_)
  show wpAny _ _ (field (.ref z) 3 >>= _) _ _ ⟨m0, gg, dd, t0, os⟩
  refine wpAny_bind (wpAny_field hg rfl (x := .ref TI) rfl (wpAny_bind (wpAny_seqItems hTI rfl ?_)))
  show wpAny _ _ (Builtin.SmallTypes.ownedTupleIsFree (.ref z) >>= _) _ _ ⟨m0, gg, dd, t0, os⟩
  refine wpAny_bind (z_free hz0 ?_ fun m1 hz1 s1 => ?_)
  · simp only [if_true]
    refine wpAny_bind (wpAny_rule (wpAny_bind (wpAny_field hg rfl (x := .ref TO) rfl (wpAny_bind (wpAny_setField_rec hg (by simp) fun m1 hg1 s1 => ?_)))))
    replace hg1 : m1.get? z = some { cls := .type "zip", dict := none, data := .fields #[.ellipsis, .bool b, .bool false, .ref TI, .ref TO], slots := #[] } := hg1
    replace s1 : Heap.SameBut z m0 m1 := s1
    refine wpAny_bind ?_
    simp only [List.zipIdx_cons, List.zipIdx_nil, List.forIn_cons, List.forIn_nil]
    refine wpAny_bind (wpAny_bind (wpAny_onRaise ?_))
    show wpAny _ _ (Builtin.SmallTypes.nextOf (.ref i1) >>= _) _ _ ⟨m1, gg, dd, t0, os⟩
    refine wpAny_bind (DA.item i _ _ _ la (DA.over ha s1 S.zf1) fun x m2 t2 px sa2 s2 => wpAny_pure ?_)
    replace s2 : Heap.SameBut i1 m1 m2 := s2
    have u2 : IsTupOf2 m2 TO oa ob := s2.extBut _ _ S.Ti1 (s1.extBut _ _ S.TOz hTO)
    refine wpAny_bind (wpAny_seqItems (s := ⟨m2, gg, dd, t2, os⟩) u2 rfl (wpAny_bind (updateSeq_IsTupOf2 (s := ⟨m2, gg, dd, t2, os⟩) u2 fun m3 u3 s3 => ?_)))
    replace u3 : IsTupOf2 m3 TO x ob := u3
    replace s3 : Heap.SameBut TO m2 m3 := s3
    refine wpAny_bind (wpAny_letGo (wpAny_pure (wpAny_bind (wpAny_bind (wpAny_onRaise ?_)))))
    show wpAny _ _ (Builtin.SmallTypes.nextOf (.ref i2) >>= _) _ _ ⟨m3, gg, dd, t2, os⟩
    refine wpAny_bind (DB.item i _ _ _ lb (DB.over (DB.over (DB.over hb s1 S.zf2) s2 S.sep1_2) s3 S.Tf2) fun y m4 t4 py sb4 s4 => wpAny_pure ?_)
    replace s4 : Heap.SameBut i2 m3 m4 := s4
    have u4 : IsTupOf2 m4 TO x ob := s4.extBut _ _ S.Ti2 u3
    refine wpAny_bind (wpAny_seqItems (s := ⟨m4, gg, dd, t4, os⟩) u4 rfl (wpAny_bind (updateSeq_IsTupOf2 (s := ⟨m4, gg, dd, t4, os⟩) u4 fun m5 u5 s5 => ?_)))
    replace u5 : IsTupOf2 m5 TO x y := u5
    replace s5 : Heap.SameBut TO m4 m5 := s5
    refine wpAny_bind (wpAny_letGo (wpAny_pure (wpAny_pure (wpAny_bind (wpAny_seqItems (s := ⟨m5, gg, dd, t4, os⟩) u5 rfl (wpAny_bind (wpAny_newTuple ?_)))))))
    have sz : m5.objs.size = m0.objs.size := by rw [s5.1, s4.1, s3.1, s2.1, s1.1]
    have far : ∀ c o, c ≠ z → c ≠ TO → c ≠ i1 → c ≠ i2 → m0.get? c = some o → m5.get? c = some o := fun c o cz cT c1 c2 e =>
      s5.extBut c o cT (s4.extBut c o c2 (s3.extBut c o cT (s2.extBut c o c1 (s1.extBut c o cz e))))
    have g5 : m5.get? z = some { cls := .type "zip", dict := none, data := .fields #[.ellipsis, .bool b, .bool false, .ref TI, .ref TO], slots := #[] } :=
      s5.extBut _ _ S.TOz.symm (s4.extBut _ _ S.zi2 (s3.extBut _ _ S.TOz.symm (s2.extBut _ _ S.zi1 hg1)))
    have a5 : Sa (i + 1) m5 := DA.over (DA.over (DA.over sa2 s3 S.Tf1) s4 S.sep2_1) s5 S.Tf1
    have b5 : Sb (i + 1) m5 := DB.over sb4 s5 S.Tf2
    have zl : z < m5.objs.size := Heap.lt_size g5
    show wpAny _ _ (Builtin.SmallTypes.ownedTupleHandOut (.ref z) (.ref m5.objs.size) >>= _) _ _ ⟨m5.push { cls := .type "tuple", data := .seq #[x, y] }, gg, dd, t4, os⟩
    refine wpAny_bind ?_
    unfold Builtin.SmallTypes.ownedTupleHandOut
    refine wpAny_bind (wpAny_setField_rec (Heap.get?_push_of_some _ g5) (by simp) fun m6 g6 s6 => wpAny_setField_rec g6 (by simp) fun m7 g7 s7 => ?_)
    replace s6 : Heap.SameBut z (m5.push { cls := .type "tuple", data := .seq #[x, y] }) m6 := s6
    replace s7 : Heap.SameBut z m6 m7 := s7
    replace g7 : m7.get? z = some { cls := .type "zip", dict := none, data := .fields #[rawInt m5.objs.size, .bool false, .bool false, .ref TI, .ref TO], slots := #[] } := g7
    have on : ∀ c o, c ≠ z → m5.get? c = some o → m7.get? c = some o := fun c o cz e => s7.extBut c o cz (s6.extBut c o cz (Heap.get?_push_of_some _ e))
    have n7 : IsTupOf2 m7 m5.objs.size x y := s7.extBut _ _ (Nat.ne_of_gt zl) (s6.extBut _ _ (Nat.ne_of_gt zl) (Heap.get?_push_size _ rfl))
    have z7 : m7.objs.size = m5.objs.size + 1 := by rw [s7.1, s6.1, Heap.size_push]
    rw [sz] at n7 z7
    refine wpAny_pure ⟨_, rfl, ?_⟩
    show Q (.ref m5.objs.size) ⟨m7, gg, dd, t4, os⟩
    rw [sz]
    exact hQ x y m7 t4 px py ⟨⟨_, false, .inr ⟨_, rfl⟩, g7⟩, on _ _ S.TIz (far _ _ S.TIz S.TITO S.TIi1 S.TIi2 hTI), ⟨x, y, on _ _ S.TOz u5⟩, DA.frame _ _ _ a5 fun c hc o e => on c o (fun q => S.zf1 (q ▸ hc)) e, DB.frame _ _ _ b5 fun c hc o e => on c o (fun q => S.zf2 (q ▸ hc)) e, n7, Nat.le_of_eq z7.symm, fun c o cz cT c1 c2 e => on c o cz (far c o cz cT c1 c2 e)⟩
  · simp only [Bool.false_eq_true, if_false]
    replace s1 : Heap.SameBut z m0 m1 := s1
    refine wpAny_bind ?_
    rw [← Array.forIn_toList]
    simp only [List.forIn_cons, List.forIn_nil]
    refine wpAny_bind (wpAny_bind (wpAny_holding ?_))
    show wpAny _ _ (Builtin.SmallTypes.nextOf (.ref i1) >>= _) _ _ ⟨m1, gg, dd, t0, os⟩
    refine wpAny_bind (DA.item i _ _ _ la (DA.over ha s1 S.zf1) fun x m2 t2 px sa2 s2 => wpAny_pure (wpAny_pure ?_))
    replace s2 : Heap.SameBut i1 m1 m2 := s2
    refine wpAny_bind (wpAny_bind (wpAny_holding ?_))
    show wpAny _ _ (Builtin.SmallTypes.nextOf (.ref i2) >>= _) _ _ ⟨m2, gg, dd, t2, os⟩
    refine wpAny_bind (DB.item i _ _ _ lb (DB.over (DB.over hb s1 S.zf2) s2 S.sep1_2) fun y m3 t3 py sb3 s3 => wpAny_pure (wpAny_pure (wpAny_pure ?_)))
    replace s3 : Heap.SameBut i2 m2 m3 := s3
    show wpAny _ _ (newTuple [x, y] >>= _) _ _ ⟨m3, gg, dd, t3, os⟩
    refine wpAny_bind (wpAny_newTuple (wpAny_pure ⟨_, rfl, ?_⟩))
    show Q (.ref m3.objs.size) ⟨m3.push { cls := .type "tuple", data := .seq #[x, y] }, gg, dd, t3, os⟩
    have sz : m3.objs.size = m0.objs.size := by rw [s3.1, s2.1, s1.1]
    have far : ∀ c o, c ≠ z → c ≠ i1 → c ≠ i2 → m0.get? c = some o → m3.get? c = some o := fun c o cz c1 c2 e => s3.extBut c o c2 (s2.extBut c o c1 (s1.extBut c o cz e))
    have up : ∀ c o, m3.get? c = some o → (m3.push { cls := .type "tuple", data := .seq #[x, y] }).get? c = some o := fun c o e => Heap.get?_push_of_some _ e
    have z3 : ZAt (m3.push { cls := .type "tuple", data := .seq #[x, y] }) z TI TO := by
      obtain ⟨f1, b1, hf1, hg1⟩ := hz1
      exact ⟨f1, b1, hf1, up _ _ (s3.extBut _ _ S.zi2 (s2.extBut _ _ S.zi1 hg1))⟩
    have n3 : IsTupOf2 (m3.push { cls := .type "tuple", data := .seq #[x, y] }) m3.objs.size x y := Heap.get?_push_size _ rfl
    have k3 : (m3.push { cls := .type "tuple", data := .seq #[x, y] }).objs.size = m3.objs.size + 1 := Heap.size_push ..
    rw [sz] at n3 k3 ⊢
    exact hQ x y _ t3 px py ⟨z3, up _ _ (far _ _ S.TIz S.TIi1 S.TIi2 hTI), ⟨oa, ob, up _ _ (far _ _ S.TOz S.Ti1 S.Ti2 hTO)⟩, DA.frame _ _ _ (DA.over sa2 s3 S.sep2_1) fun c _ o e => up c o e, DB.frame _ _ _ sb3 fun c _ o e => up c o e, n3, Nat.le_of_eq k3.symm, fun c o cz _ c1 c2 e => up c o (far c o cz c1 c2 e)⟩

theorem z_end {Q : Fin → Shared → Prop} (S : ZipSep2 z TI TO i1 i2 fa fb) (DA : Draws prog w A i1 fa na Pa Sa) (DB : Draws prog w A i2 fb nb Pb Sb)
    (hz : ZAt s.heap z TI TO) (hTI : IsTupOf2 s.heap TI (.ref i1) (.ref i2)) (hTO : ∃ a b, IsTupOf2 s.heap TO a b) (ha : Sa i s.heap) (hb : Sb i s.heap) (hi : i = min na nb)
    (hE : ∀ m tk u, (∀ c o, c ≠ z → c ≠ TO → c ≠ i1 → c ≠ i2 → s.heap.get? c = some o → m.get? c = some o) → (∃ o, m.get? u = some o ∧ o.cls = .type "StopIteration") → E (.ref u) { s with heap := m, toks := tk }) :
    wpAny (model prog w) A (Builtin.«zip.__next__» ⟨[.ref z], []⟩) Q E s := by
  obtain ⟨m0, gg, dd, t0, os⟩ := s
  have hz0 := hz
  obtain ⟨f, b, hf, hg⟩ := hz
  obtain ⟨oa, ob, hTO⟩ := hTO
  show wpAny _ _ (field (.ref z) 2 >>= _) _ _ ⟨m0, gg, dd, t0, os⟩
  refine wpAny_bind (wpAny_field hg rfl (x := .bool false) rfl ?_)
  show wpAny _ _ (field (.ref z) 3 >>= _) _ _ ⟨m0, gg, dd, t0, os⟩
  refine wpAny_bind (wpAny_field hg rfl (x := .ref TI) rfl (wpAny_bind (wpAny_seqItems hTI rfl ?_)))
  show wpAny _ _ (Builtin.SmallTypes.ownedTupleIsFree (.ref z) >>= _) _ _ ⟨m0, gg, dd, t0, os⟩
  refine wpAny_bind (z_free hz0 ?_ fun m1 hz1 s1 => ?_)
  · simp only [if_true]
    refine wpAny_bind (wpAny_rule (wpAny_bind (wpAny_field hg rfl (x := .ref TO) rfl (wpAny_bind (wpAny_setField_rec hg (by simp) fun m1 hg1 s1 => ?_)))))
    replace hg1 : m1.get? z = some { cls := .type "zip", dict := none, data := .fields #[.ellipsis, .bool b, .bool false, .ref TI, .ref TO], slots := #[] } := hg1
    replace s1 : Heap.SameBut z m0 m1 := s1
    -- where one of the two raises, the zip is set back
    have back : ∀ (q : Heap) (tk : Nat) (u : Addr), (∀ c o, c ≠ z → c ≠ TO → c ≠ i1 → c ≠ i2 → m0.get? c = some o → q.get? c = some o) → q.get? z = some { cls := .type "zip", dict := none, data := .fields #[.ellipsis, .bool b, .bool false, .ref TI, .ref TO], slots := #[] } → (∃ o, q.get? u = some o ∧ o.cls = .type "StopIteration") →
        wpAny (model prog w) A (setField (.ref z) 0 .none) (fun _ s' => E (.ref u) s') E ⟨q, gg, dd, tk, os⟩ := fun q tk u kq gq ⟨o, ho, hc⟩ => by
      have uz : u ≠ z := fun e => by
        rw [e, gq] at ho
        cases ho
        simp at hc
      refine wpAny_setField_rec (s := ⟨q, gg, dd, tk, os⟩) gq (by simp) fun q2 _ s2 => ?_
      replace s2 : Heap.SameBut z q q2 := s2
      exact hE q2 tk u (fun c o cz cT c1 c2 e => s2.extBut c o cz (kq c o cz cT c1 c2 e)) ⟨o, s2.extBut _ _ uz ho, hc⟩
    refine wpAny_bind ?_
    simp only [List.zipIdx_cons, List.zipIdx_nil, List.forIn_cons, List.forIn_nil]
    refine wpAny_bind (wpAny_bind (wpAny_onRaise ?_))
    show wpAny _ _ (Builtin.SmallTypes.nextOf (.ref i1) >>= _) _ _ ⟨m1, gg, dd, t0, os⟩
    by_cases la : i < na
    · refine wpAny_bind (DA.item i _ _ _ la (DA.over ha s1 S.zf1) fun x m2 t2 px sa2 s2 => wpAny_pure ?_)
      replace s2 : Heap.SameBut i1 m1 m2 := s2
      have u2 : IsTupOf2 m2 TO oa ob := s2.extBut _ _ S.Ti1 (s1.extBut _ _ S.TOz hTO)
      refine wpAny_bind (wpAny_seqItems (s := ⟨m2, gg, dd, t2, os⟩) u2 rfl (wpAny_bind (updateSeq_IsTupOf2 (s := ⟨m2, gg, dd, t2, os⟩) u2 fun m3 u3 s3 => ?_)))
      replace s3 : Heap.SameBut TO m2 m3 := s3
      refine wpAny_bind (wpAny_letGo (wpAny_pure (wpAny_bind (wpAny_bind (wpAny_onRaise ?_)))))
      show wpAny _ _ (Builtin.SmallTypes.nextOf (.ref i2) >>= _) _ _ ⟨m3, gg, dd, t2, os⟩
      have eb : i = nb := by omega
      refine wpAny_bind (DB.done ⟨m3, gg, dd, t2, os⟩ _ _ (by rw [← eb]; exact DB.over (DB.over (DB.over hb s1 S.zf2) s2 S.sep1_2) s3 S.Tf2) fun q u s4 hu => ?_)
      replace s4 : Heap.ExtBut i2 m3 q := s4
      exact back q t2 u (fun c o cz cT c1 c2 e => s4 c o c2 (s3.extBut c o cT (s2.extBut c o c1 (s1.extBut c o cz e)))) (s4 _ _ S.zi2 (s3.extBut _ _ S.TOz.symm (s2.extBut _ _ S.zi1 hg1))) hu
    · have ea : i = na := by omega
      refine wpAny_bind (DA.done ⟨m1, gg, dd, t0, os⟩ _ _ (by rw [← ea]; exact DA.over ha s1 S.zf1) fun q u s2 hu => ?_)
      replace s2 : Heap.ExtBut i1 m1 q := s2
      exact back q t0 u (fun c o cz cT c1 c2 e => s2 c o c1 (s1.extBut c o cz e)) (s2 _ _ S.zi1 hg1) hu
  · simp only [Bool.false_eq_true, if_false]
    replace s1 : Heap.SameBut z m0 m1 := s1
    refine wpAny_bind ?_
    rw [← Array.forIn_toList]
    simp only [List.forIn_cons, List.forIn_nil]
    refine wpAny_bind (wpAny_bind (wpAny_holding ?_))
    show wpAny _ _ (Builtin.SmallTypes.nextOf (.ref i1) >>= _) _ _ ⟨m1, gg, dd, t0, os⟩
    by_cases la : i < na
    · refine wpAny_bind (DA.item i _ _ _ la (DA.over ha s1 S.zf1) fun x m2 t2 px sa2 s2 => wpAny_pure (wpAny_pure ?_))
      replace s2 : Heap.SameBut i1 m1 m2 := s2
      refine wpAny_bind (wpAny_bind (wpAny_holding ?_))
      show wpAny _ _ (Builtin.SmallTypes.nextOf (.ref i2) >>= _) _ _ ⟨m2, gg, dd, t2, os⟩
      have eb : i = nb := by omega
      refine wpAny_bind (DB.done ⟨m2, gg, dd, t2, os⟩ _ _ (by rw [← eb]; exact DB.over (DB.over hb s1 S.zf2) s2 S.sep1_2) fun q u s4 hu => ?_)
      replace s4 : Heap.ExtBut i2 m2 q := s4
      exact hE q t2 u (fun c o cz cT c1 c2 e => s4 c o c2 (s2.extBut c o c1 (s1.extBut c o cz e))) hu
    · have ea : i = na := by omega
      refine wpAny_bind (DA.done ⟨m1, gg, dd, t0, os⟩ _ _ (by rw [← ea]; exact DA.over ha s1 S.zf1) fun q u s2 hu => ?_)
      replace s2 : Heap.ExtBut i1 m1 q := s2
      exact hE q t0 u (fun c o cz cT c1 c2 e => s2 c o c1 (s1.extBut c o cz e)) hu
theorem z_ty {m : Heap} {g : Array GenState} {d : Drawn} {t : Nat} {os : OsState} (h : ZAt m z TI TO) : Shared.TypeIs ⟨m, g, d, t, os⟩ (.ref z) "zip" := by
  obtain ⟨f, b, hf, hg⟩ := h
  exact ⟨_, hg, rfl⟩
theorem z_nextOf {Q : Value → Shared → Prop} (S : ZipSep2 z TI TO i1 i2 fa fb) (DA : Draws prog w A.in1 i1 fa na Pa Sa) (DB : Draws prog w A.in1 i2 fb nb Pb Sb)
    (hz : ZAt s.heap z TI TO) (hTI : IsTupOf2 s.heap TI (.ref i1) (.ref i2)) (hTO : ∃ a b, IsTupOf2 s.heap TO a b) (ha : Sa i s.heap) (hb : Sb i s.heap) (la : i < na) (lb : i < nb)
    (hQ : ∀ x y m tk, Pa i x → Pb i y → ZOn z TI TO i1 i2 Sa Sb i s.heap m x y → Q (.ref s.heap.objs.size) { s with heap := m, toks := tk }) :
    wpAny (model prog w) A (Builtin.SmallTypes.nextOf (.ref z)) Q E s := by
  have ty : s.TypeIs (.ref z) "zip" := z_ty hz
  unfold Builtin.SmallTypes.nextOf
  exact wpAny_bind (wpAny_callSpecial?_slot (name := Str.ofString "__next__") ty F.slot_zip_next (wpAny_call_entry F.slot_zip_next ty F.entry_zip_next
    (z_next S DA DB hz hTI hTO ha hb la lb fun x y m tk px py on => wpAny_pure (hQ x y m tk px py on)) (F.args_zip_next_1 _)))
theorem z_nextEnd {Q : Value → Shared → Prop} (S : ZipSep2 z TI TO i1 i2 fa fb) (DA : Draws prog w A.in1 i1 fa na Pa Sa) (DB : Draws prog w A.in1 i2 fb nb Pb Sb)
    (hz : ZAt s.heap z TI TO) (hTI : IsTupOf2 s.heap TI (.ref i1) (.ref i2)) (hTO : ∃ a b, IsTupOf2 s.heap TO a b) (ha : Sa i s.heap) (hb : Sb i s.heap) (hi : i = min na nb)
    (hE : ∀ m tk u, (∀ c o, c ≠ z → c ≠ TO → c ≠ i1 → c ≠ i2 → s.heap.get? c = some o → m.get? c = some o) → (∃ o, m.get? u = some o ∧ o.cls = .type "StopIteration") → E (.ref u) { s with heap := m, toks := tk }) :
    wpAny (model prog w) A (Builtin.SmallTypes.nextOf (.ref z)) Q E s := by
  have ty : s.TypeIs (.ref z) "zip" := z_ty hz
  unfold Builtin.SmallTypes.nextOf
  exact wpAny_bind (wpAny_callSpecial?_slot (name := Str.ofString "__next__") ty F.slot_zip_next (wpAny_call_entry F.slot_zip_next ty F.entry_zip_next (z_end S DA DB hz hTI hTO ha hb hi hE) (F.args_zip_next_1 _)))
end
end Q

set_option Elab.async false
set_option linter.all false
set_option maxRecDepth 100000
set_option maxHeartbeats 4000000
/-! QQ: enumerate over zip, as a source of loops. -/
namespace Q
open PySem PySem.Spec PyProof.Rows L2
section
variable {prog : Program} {w : World} {A : Around} {E : Value → Shared → Prop} {s : Shared} {e z TI TO i1 i2 : Addr} {fa fb : List Addr} {na nb i : Nat} {Pa Pb : Nat → Value → Prop} {Sa Sb : Nat → Heap → Prop} {c : Int} {old : Value}
theorem ez_next {Q : Option Value → Shared → Prop} (S : ZipSep2 z TI TO i1 i2 fa fb) (DA : Draws prog w A.in1.in1 i1 fa na Pa Sa) (DB : Draws prog w A.in1.in1 i2 fb nb Pb Sb) (he : IsEnum s.heap e z c old) (hne : e ≠ z ∧ e ≠ TI ∧ e ≠ TO ∧ e ≠ i1 ∧ e ≠ i2) (hfa : e ∉ fa) (hfb : e ∉ fb)
    (hz : ZAt s.heap z TI TO) (hTI : IsTupOf2 s.heap TI (.ref i1) (.ref i2)) (hTO : ∃ a b, IsTupOf2 s.heap TO a b) (ha : Sa i s.heap) (hb : Sb i s.heap) (la : i < na) (lb : i < nb)
    (hQ : ∀ x y m m' tk, Pa i x → Pb i y → ZOn z TI TO i1 i2 Sa Sb i s.heap m x y → IsEnumOut m' e z (c + 1) (.ref s.heap.objs.size) m.objs.size → IsTupOf2 m' m.objs.size (.int c tk) (.ref s.heap.objs.size) → m'.objs.size = m.objs.size + 1 →
      (∀ b o, b ≠ e → m.get? b = some o → m'.get? b = some o) → Q (some (.ref m.objs.size)) { s with heap := m', toks := tk + 1 }) :
    wpAny (model prog w) A (pyNext (.ref e)) Q E s := by
  have ty : s.TypeIs (.ref e) "enumerate" := ⟨_, he, rfl⟩
  unfold pyNext
  refine wpAny_bind (wpAny_attempt (wpAny_callSpecial?_slot (name := Str.ofString "__next__") ty F.slot_enumerate_next (wpAny_call_entry F.slot_enumerate_next ty F.entry_enumerate_next ?_ (F.args_enumerate_next_1 _))))
  obtain ⟨m0, gg, dd, t0, os⟩ := s
  show wpAny _ _ (field (.ref e) 2 >>= _) _ _ ⟨m0, gg, dd, t0, os⟩
  refine wpAny_bind (wpAny_field he rfl (x := .ref z) rfl (wpAny_bind (z_nextOf S DA DB hz hTI hTO ha hb la lb fun x y m tk px py on => ?_)))
  have e1 : IsEnum m e z c old := on.kp e _ hne.1 hne.2.2.1 hne.2.2.2.1 hne.2.2.2.2 he
  show wpAny _ _ (field (.ref e) 3 >>= _) _ _ ⟨m, gg, dd, tk, os⟩
  refine wpAny_bind (wpAny_field e1 rfl (x := rawInt c) rfl ?_)
  show wpAny _ _ (field (.ref e) 4 >>= _) _ _ ⟨m, gg, dd, tk, os⟩
  refine wpAny_bind (wpAny_field e1 rfl (x := .none) rfl ?_)
  show wpAny _ _ (mkInt c >>= _) _ _ ⟨m, gg, dd, tk, os⟩
  refine wpAny_bind (wpAny_mkInt ?_)
  show wpAny _ _ (setField (.ref e) 3 (rawInt (c + 1)) >>= _) _ _ ⟨m, gg, dd, tk + 1, os⟩
  refine wpAny_bind (wpAny_setField_rec e1 (by simp) fun m2 e2 s2 => ?_)
  replace s2 : Heap.SameBut e m m2 := s2
  replace e2 : IsEnum m2 e z (c + 1) old := e2
  show wpAny _ _ (setField (.ref e) 4 .none >>= _) _ _ ⟨m2, gg, dd, tk + 1, os⟩
  refine wpAny_bind (wpAny_setField_rec e2 (by simp) fun m3 e3 s3 => ?_)
  replace s3 : Heap.SameBut e m2 m3 := s3
  replace e3 : IsEnum m3 e z (c + 1) old := e3
  show wpAny _ _ (newTuple [.int c tk, .ref m0.objs.size] >>= _) _ _ ⟨m3, gg, dd, tk + 1, os⟩
  refine wpAny_bind (wpAny_newTuple ?_)
  have z3 : m3.objs.size = m.objs.size := by rw [s3.1, s2.1]
  have el : e < m.objs.size := Heap.lt_size e1
  generalize h4 : m3.push { cls := .type "tuple", data := .seq #[.int c tk, .ref m0.objs.size] } = m4
  have e4 : IsEnum m4 e z (c + 1) old := by rw [← h4]; exact Heap.get?_push_of_some _ e3
  have n4 : IsTupOf2 m4 m.objs.size (.int c tk) (.ref m0.objs.size) := by rw [← h4, ← z3]; exact Heap.get?_push_size _ rfl
  have z4 : m4.objs.size = m.objs.size + 1 := by rw [← h4, Heap.size_push, z3]
  have k4 : ∀ b o, b ≠ e → m.get? b = some o → m4.get? b = some o := fun b o hbe q => by rw [← h4]; exact Heap.get?_push_of_some _ (s3.extBut b o hbe (s2.extBut b o hbe q))
  show wpAny _ _ (Builtin.SmallTypes.ownedTupleIsFree (.ref e) >>= _) _ _ ⟨m4, gg, dd, tk + 1, os⟩
  rw [z3]
  refine wpAny_bind ?_
  unfold Builtin.SmallTypes.ownedTupleIsFree
  refine wpAny_bind (wpAny_field e4 rfl (x := .none) rfl (wpAny_pure ?_))
  simp only [if_true]
  refine wpAny_bind (wpAny_rule (wpAny_bind (wpAny_field e4 rfl (x := old) rfl (wpAny_bind (wpAny_setField_rec e4 (by simp) fun m5 e5 s5 => ?_)))))
  replace s5 : Heap.SameBut e m4 m5 := s5
  replace e5 : IsEnum m5 e z (c + 1) (.ref m0.objs.size) := e5
  show wpAny _ _ (Builtin.SmallTypes.ownedTupleHandOut (.ref e) (.ref m.objs.size) >>= _) _ _ ⟨m5, gg, dd, tk + 1, os⟩
  refine wpAny_bind ?_
  unfold Builtin.SmallTypes.ownedTupleHandOut
  refine wpAny_bind (wpAny_setField_rec e5 (by simp) fun m6 e6 s6 => ?_)
  replace s6 : Heap.SameBut e m5 m6 := s6
  replace e6 : IsEnumOut m6 e z (c + 1) (.ref m0.objs.size) m.objs.size := e6
  refine wpAny_setField_rec e6 (by simp) fun m7 e7 s7 => ?_
  replace s7 : Heap.SameBut e m6 m7 := s7
  replace e7 : IsEnumOut m7 e z (c + 1) (.ref m0.objs.size) m.objs.size := e7
  refine wpAny_bind (wpAny_letGo (wpAny_pure ⟨_, rfl, wpAny_pure ?_⟩))
  exact hQ x y m m7 tk px py on e7 (s7.extBut _ _ (Nat.ne_of_gt el) (s6.extBut _ _ (Nat.ne_of_gt el) (s5.extBut _ _ (Nat.ne_of_gt el) n4))) (by rw [s7.1, s6.1, s5.1, z4]) fun b o hbe q => s7.extBut b o hbe (s6.extBut b o hbe (s5.extBut b o hbe (k4 b o hbe q)))
theorem ez_end {Q : Option Value → Shared → Prop} (S : ZipSep2 z TI TO i1 i2 fa fb) (DA : Draws prog w A.in1.in1 i1 fa na Pa Sa) (DB : Draws prog w A.in1.in1 i2 fb nb Pb Sb) (he : IsEnum s.heap e z c old)
    (hz : ZAt s.heap z TI TO) (hTI : IsTupOf2 s.heap TI (.ref i1) (.ref i2)) (hTO : ∃ a b, IsTupOf2 s.heap TO a b) (ha : Sa i s.heap) (hb : Sb i s.heap) (hi : i = min na nb)
    (hQ : ∀ m tk, (∀ c o, c ≠ z → c ≠ TO → c ≠ i1 → c ≠ i2 → s.heap.get? c = some o → m.get? c = some o) → Q none { s with heap := m, toks := tk }) : wpAny (model prog w) A (pyNext (.ref e)) Q E s := by
  have ty : s.TypeIs (.ref e) "enumerate" := ⟨_, he, rfl⟩
  unfold pyNext
  refine wpAny_bind (wpAny_attempt (wpAny_callSpecial?_slot (name := Str.ofString "__next__") ty F.slot_enumerate_next (wpAny_call_entry F.slot_enumerate_next ty F.entry_enumerate_next ?_ (F.args_enumerate_next_1 _))))
  show wpAny _ _ (field (.ref e) 2 >>= _) _ _ s
  refine wpAny_bind (wpAny_field he rfl (x := .ref z) rfl (wpAny_bind (z_nextEnd S DA DB hz hTI hTO ha hb hi fun m tk u k hu => ?_)))
  obtain ⟨o, ho, hc⟩ := hu
  exact wpAny_bind (wpAny_isInstance (T := "StopIteration") (b := true) ⟨o, ho, hc⟩ isSubtype_stop (wpAny_pure (hQ m tk k)))
end
def ItEZ (K : PySem.W.Frag) (k1 : Bool) (a : Addr) (k2 : Bool) (b : Addr) : It :=
  ⟨fun i H => ∃ xs ys x y, sqS K H k1 a xs ∧ sqS K H k2 b ys ∧ xs[i]? = some x ∧ ys[i]? = some y,
   fun i H v H' => ∃ T U x y, v = .ref U ∧ H T = none ∧ (upd H T (.tup [x, y])) U = none ∧ H' = upd (upd H T (.tup [x, y])) U (.tup [.int (i : Int), .ref T]) ∧ (∀ xs, sqS K H k1 a xs → xs[i]? = some x) ∧ ∀ ys, sqS K H k2 b ys → ys[i]? = some y,
   fun i H => ∃ xs ys, sqS K H k1 a xs ∧ sqS K H k2 b ys ∧ min xs.length ys.length = i⟩
theorem turn_ez {P : Program} {w : World} {K : PySem.W.Frag} {elts : List Expr} {kk : Nat} {tpos : Pos} {e z TI TO i1 i2 a b : Addr} (k1 k2 : Bool) (S : ZipSep2 z TI TO i1 i2 [i1, a] [i2, b]) (hne : e ≠ z ∧ e ≠ TI ∧ e ≠ TO ∧ e ≠ i1 ∧ e ≠ i2) (hea : e ≠ a ∧ e ≠ b) : Turn P w K (.Tuple elts kk tpos) (ItEZ K k1 a k2 b) [e, z, TI, TO, i1, i2] e
    (fun i h => (∃ old, IsEnum h e z ((i : Nat) : Int) old) ∧ ZAt h z TI TO ∧ IsTupOf2 h TI (.ref i1) (.ref i2) ∧ (∃ x y, IsTupOf2 h TO x y) ∧ itS h k1 i1 a i ∧ itS h k2 i2 b i) where
  mem := by simp
  obj := fun i h st c hc => by
    obtain ⟨⟨old, he⟩, ⟨f, bb, hf, hz⟩, hI, ⟨x, y, hO⟩, h1, h2⟩ := st
    have hc' : c = e ∨ c = z ∨ c = TI ∨ c = TO ∨ c = i1 ∨ c = i2 := by simpa using hc
    rcases hc' with q | q | q | q | q | q
    · rw [q]; exact ⟨_, he, fun v q => nomatch q⟩
    · rw [q]; exact ⟨_, hz, fun v q => nomatch q⟩
    · rw [q]; exact ⟨_, hI, fun v q => nomatch q⟩
    · rw [q]; exact ⟨_, hO, fun v q => nomatch q⟩
    · rw [q]; exact itS_obj h1
    · rw [q]; exact itS_obj h2
  keep := fun i h h' st kp => by
    obtain ⟨⟨old, he⟩, ⟨f, bb, hf, hz⟩, hI, ⟨x, y, hO⟩, h1, h2⟩ := st
    exact ⟨⟨old, kp e (by simp) _ he⟩, ⟨f, bb, hf, kp z (by simp) _ hz⟩, kp TI (by simp) _ hI, ⟨x, y, kp TO (by simp) _ hO⟩, itS_at h1 fun o q => kp i1 (by simp) o q, itS_at h2 fun o q => kp i2 (by simp) o q⟩
  item := by
    intro X hP hw hK hc i pins s σ H E I hf st hg
    subst hP hw hK
    obtain ⟨xs, ys, x, y, hq1, hq2, hx, hy⟩ := hg
    obtain ⟨its1, r1, p1, _⟩ := inv_src I hq1
    obtain ⟨its2, r2, p2, _⟩ := inv_src I hq2
    obtain ⟨u1, hu1, ru1⟩ := r1.get hx
    obtain ⟨u2, hu2, ru2⟩ := r2.get hy
    obtain ⟨⟨old, he⟩, hz, hI, hO, h1, h2⟩ := st
    have n1 := itS_ne h1 p1
    have n2 := itS_ne h2 p2
    have l1 : i < its1.toArray.size := by rw [List.size_toArray]; exact (List.getElem?_eq_some_iff.mp hu1).1
    have l2 : i < its2.toArray.size := by rw [List.size_toArray]; exact (List.getElem?_eq_some_iff.mp hu2).1
    refine ez_next S (draw_ok (prog := X.prog) (w := X.w) (A := X.A.in1.in1) (I.ok.hd hc) k1 i1 a n1 its1.toArray) (draw_ok (prog := X.prog) (w := X.w) (A := X.A.in1.in1) (I.ok.hd hc) k2 i2 b n2 its2.toArray) he hne
      (by simp [hne.2.2.2.1, hea.1]) (by simp [hne.2.2.2.2, hea.2]) hz hI hO ⟨h1, p1⟩ ⟨h2, p2⟩ l1 l2 fun v1 v2 m m' tk e1 e2 on ho hT zz kk => ⟨_, rfl, ?_⟩
    have q1 : u1 = v1 := by
      have z : its1.toArray[i]? = some u1 := by simpa using hu1
      rw [z] at e1; exact Option.some.inj e1
    have q2 : u2 = v2 := by
      have z : its2.toArray[i]? = some u2 := by simpa using hu2
      rw [z] at e2; exact Option.some.inj e2
    subst q1 q2
    have fresh1 : H s.heap.objs.size = none := I.hok.fresh (Nat.le_refl _)
    have lt : ∀ {d : Addr} {o : Obj}, s.heap.get? d = some o → d < s.heap.objs.size := fun q => Heap.lt_size q
    have old6 : ∀ d ∈ [e, z, TI, TO, i1, i2], d < s.heap.objs.size := fun d hd => by
      have hd' : d = e ∨ d = z ∨ d = TI ∨ d = TO ∨ d = i1 ∨ d = i2 := by simpa using hd
      obtain ⟨f, bb, hf, hz⟩ := hz
      obtain ⟨_, _, hO⟩ := hO
      rcases hd' with q | q | q | q | q | q
      · rw [q]; exact lt he
      · rw [q]; exact lt hz
      · rw [q]; exact lt hI
      · rw [q]; exact lt hO
      · obtain ⟨_, g, _⟩ := itS_obj h1
        rw [q]; exact lt g
      · obtain ⟨_, g, _⟩ := itS_obj h2
        rw [q]; exact lt g
    -- the zip's tuple
    have new1 : ObjOk X.prog X.w (upd H s.heap.objs.size (.tup [x, y])) m s.heap.objs.size (.tup [x, y]) := ⟨by show 2 ≤ sizeLine; decide, [u1, u2], .cons ru1 (.cons ru2 .nil), ⟨_, on.new, rfl, 0, rfl⟩⟩
    have I1 : Inv X pins σ (upd H s.heap.objs.size (.tup [x, y])) { s with heap := m, toks := tk } := I.turnedNew (ch := [z, TO, i1, i2]) (fun d o hd q => on.kp d o (fun j => hd (by simp [j])) (fun j => hd (by simp [j])) (fun j => hd (by simp [j])) (fun j => hd (by simp [j])) q) (fun d hd => hf d (by
      have hd' : d = z ∨ d = TO ∨ d = i1 ∨ d = i2 := by simpa using hd
      rcases hd' with q | q | q | q <;> simp [q])) (Nat.le_refl _) new1
    -- enumerate's tuple
    have fresh2 : (upd H s.heap.objs.size (.tup [x, y])) m.objs.size = none := I1.hok.fresh (Nat.le_refl _)
    have new2 : ObjOk X.prog X.w (upd (upd H s.heap.objs.size (.tup [x, y])) m.objs.size (.tup [.int (i : Int), .ref s.heap.objs.size])) m' m.objs.size (.tup [.int (i : Int), .ref s.heap.objs.size]) :=
      ⟨by show 2 ≤ sizeLine; decide, [.int (i : Int) tk, .ref s.heap.objs.size], .cons ⟨tk, rfl⟩ (.cons rfl .nil), ⟨_, hT, rfl, 0, rfl⟩⟩
    have fe : FpOk X pins (upd H s.heap.objs.size (.tup [x, y])) e := by
      have g := hf e (by simp)
      exact ⟨by rw [upd_ne (Nat.ne_of_lt (lt he))]; exact g.1, g.2⟩
    have I2 : Inv X pins σ (upd (upd H s.heap.objs.size (.tup [x, y])) m.objs.size (.tup [.int (i : Int), .ref s.heap.objs.size])) { s with heap := m', toks := tk + 1 } := I1.turnedNew (t' := tk + 1) (ch := [e]) (fun d o hd q => kk d o (by simpa using hd) q) (fun d hd => by
      have hd' : d = e := by simpa using hd
      rw [hd']; exact fe) (Nat.le_refl _) new2
    -- it is let go at the target
    refine wpAny_letOwnedTupleGo_enum ho fun m2 e2 s2 => ?_
    replace s2 : Heap.SameBut e m' m2 := s2
    have eN : e ≠ m.objs.size := Nat.ne_of_lt (Nat.lt_of_lt_of_le (lt he) (Nat.le_trans (Nat.le_succ _) on.big))
    have fe2 : FpOk X pins (upd (upd H s.heap.objs.size (.tup [x, y])) m.objs.size (.tup [.int (i : Int), .ref s.heap.objs.size])) e := ⟨by rw [upd_ne eN]; exact fe.1, fe.2⟩
    have I3 := Inv.turnedL (h' := m2) (t' := tk + 1) (ch := [e]) I2 (fun d o hd q => s2.extBut d o (by simpa using hd) q) fun d hd => by
      have hd' : d = e := by simpa using hd
      rw [hd']; exact fe2
    have up : ∀ d o, d ≠ e → m.get? d = some o → m2.get? d = some o := fun d o hd q => s2.extBut d o hd (kk d o hd q)
    refine ⟨.ref m.objs.size, _, I3, rfl, ⟨s.heap.objs.size, m.objs.size, x, y, rfl, fresh1, fresh2, rfl, fun l hl => by rw [src_inj I hl hq1]; exact hx, fun l hl => by rw [src_inj I hl hq2]; exact hy⟩, ⟨⟨.ref s.heap.objs.size, ?_⟩, ?_, up _ _ (Ne.symm hne.2.1) on.ti, ?_, ?_, ?_⟩, fun d hd => ?_⟩
    · have e1 : ((i + 1 : Nat) : Int) = (i : Int) + 1 := by omega
      rw [e1]
      exact e2
    · obtain ⟨f, bb, hf2, hz2⟩ := on.zip
      exact ⟨f, bb, hf2, up _ _ (Ne.symm hne.1) hz2⟩
    · obtain ⟨oa, ob, hO2⟩ := on.to
      exact ⟨oa, ob, up _ _ (Ne.symm hne.2.2.1) hO2⟩
    · exact itS_at on.sa.1 fun o q => up _ _ (Ne.symm hne.2.2.2.1) q
    · exact itS_at on.sb.1 fun o q => up _ _ (Ne.symm hne.2.2.2.2) q
    · have l := old6 d hd
      rw [upd_ne (Nat.ne_of_lt (Nat.lt_of_lt_of_le l (Nat.le_trans (Nat.le_succ _) on.big))), upd_ne (Nat.ne_of_lt l)]
      exact (hf d hd).1
  done := by
    intro X hP hw hK hc i pins s σ H E I hf st hg
    subst hP hw hK
    obtain ⟨xs, ys, hq1, hq2, hi⟩ := hg
    obtain ⟨its1, r1, p1, _⟩ := inv_src I hq1
    obtain ⟨its2, r2, p2, _⟩ := inv_src I hq2
    obtain ⟨⟨old, he⟩, hz, hI, hO, h1, h2⟩ := st
    refine ez_end S (draw_ok (prog := X.prog) (w := X.w) (A := X.A.in1.in1) (I.ok.hd hc) k1 i1 a (itS_ne h1 p1) its1.toArray) (draw_ok (prog := X.prog) (w := X.w) (A := X.A.in1.in1) (I.ok.hd hc) k2 i2 b (itS_ne h2 p2) its2.toArray) he hz hI hO ⟨h1, p1⟩ ⟨h2, p2⟩ (by rw [List.size_toArray, List.size_toArray, ← r1.length, ← r2.length, hi]) fun m tk k => ⟨rfl, ?_⟩
    exact I.turnedL (t' := tk) (ch := [z, TO, i1, i2]) (fun d o hd q => k d o (fun j => hd (by simp [j])) (fun j => hd (by simp [j])) (fun j => hd (by simp [j])) (fun j => hd (by simp [j])) q) fun d hd => hf d (by
      have hd' : d = z ∨ d = TO ∨ d = i1 ∨ d = i2 := by simpa using hd
      rcases hd' with q | q | q | q <;> simp [q])
  self := fun A i s Q E st h => by
    obtain ⟨⟨old, he⟩, _⟩ := st
    exact wpAny_pyIter_enum he h
end Q

set_option Elab.async false
set_option linter.all false
set_option maxRecDepth 100000
set_option maxHeartbeats 4000000
/-! QR: for k, (a, b) in enumerate(zip(x, y)). -/
namespace Q
open PySem PySem.Spec PyProof.Rows L2
set_option maxHeartbeats 8000000 in
theorem enz_new {z TI TO : Addr} :
    Meets (Builtin.«enumerate.__new__» ⟨[.type "enumerate", .ref z], []⟩) (fun _ R s => IsZip s.heap z TI TO .none ∧
      R (.ok (.ret (.ref s.heap.objs.size))) { s with heap := s.heap.push { cls := .type "enumerate", data := .fields #[.none, .bool false, .ref z, rawInt 0, .none, .none] } }) :=
  .of_wp fun prog w A R s h => by
    obtain ⟨hp, g, d, tk, os⟩ := s
    obtain ⟨h1, h⟩ := h
    have hsub := sub_enumerate
    have go : ∀ {A' : Around} {E : Value → Shared → Prop} {Q : Value → Shared → Prop}, Q (.ref z) ⟨hp, g, d, tk, os⟩ → wpAny (model prog w) A' (pyIter (.ref z)) Q E ⟨hp, g, d, tk, os⟩ :=
      fun q => wpAny_pyIter_zip h1 q
    wp_walk using go
    refine wpAny_stack_any fun st => wpAny_pure ?_
    split
    · rename_i c _ _ _ _ _
      cases (c == Value.type "enumerate")
      · wp_walk using go
        exact ⟨_, rfl, h⟩
      · wp_walk using go
        exact ⟨_, rfl, h⟩
    · wp_walk using go
      exact ⟨_, rfl, h⟩
theorem call_enz {prog : Program} {w : World} {A : Around} {E : Value → Shared → Prop} {s : Shared} {z TI TO : Addr} {Q : Value → Shared → Prop} (h1 : IsZip s.heap z TI TO .none)
    (h : ∀ m, IsEnum m s.heap.objs.size z 0 .none → (∀ b u, s.heap.get? b = some u → m.get? b = some u) → Q (.ref s.heap.objs.size) { s with heap := m }) :
    wpAny (model prog w) A (call (.type "enumerate") [.ref z]) Q E s := by
  refine callType_new F.called_enumerate (by decide) (F.typeCall_enumerate_1 _) (F.newCall_enumerate_1 _) (fun obj => F.args_object_init_2 obj _) F.entry_enumerate_new (enz_new (z := z) (TI := TI) (TO := TO)) ⟨h1, ?_⟩
  have he : IsEnum (s.heap.push { cls := .type "enumerate", data := .fields #[.none, .bool false, .ref z, rawInt 0, .none, .none] }) s.heap.objs.size z 0 .none := Heap.get?_push_size _ rfl
  exact ⟨⟨_, he, rfl⟩, h _ he fun b u x => Heap.get?_push_of_some _ x⟩
section
variable {X : Cx}
def iEZ (K : PySem.W.Frag) (ta : TA) : TI := fun σ H R => ta σ H fun vs H1 => ∃ k1 a k2 b xs ys, vs = [.ref a, .ref b] ∧ sqS K H1 k1 a xs ∧ sqS K H1 k2 b ys ∧ R (ItEZ K k1 a k2 b) H1
theorem pi_ez {e e2 : Expr} {ta : TA} {p pos p2 pos2 tpos : Pos} {elts : List Expr} {kk : Nat} (hg : Gl X "enumerate") (hm : X.mg "enumerate" = none) (hg2 : Gl X "zip") (hm2 : X.mg "zip" = none) (ha : PA X [e, e2] ta)
    (hs : starEach [e, e2] X.env = (false, eval e X.env) :: starEach [e2] X.env) (hpl : (backTo pos2 (starEach [e2] X.env)).any (·.1) = false)
    (ho : starEach [.Call (.Name "zip" p2) [e, e2] [] pos2] X.env = (false, eval (.Call (.Name "zip" p2) [e, e2] [] pos2) X.env) :: starEach [] X.env) :
    PI X (.Tuple elts kk tpos) (.Call (.Name "enumerate" p) [.Call (.Name "zip" p2) [e, e2] [] pos2] [] pos) (iEZ X.K ta) := by
  refine ⟨fun pins s σ H R I h => ?_⟩
  refine Call_ (ld_blt I hg hm PyProof.Rows.boot_enumerate (PyProof.Rows.callWith_type1 ?_ ho rfl))
  rw [ho]
  show wpAny _ _ (spliced ((false, eval (.Call (.Name "zip" p2) [e, e2] [] pos2) X.env) :: backTo pos (starEach [] X.env))) _ _ s
  refine Calls.spliced_cons (Call_ (ld_blt I hg2 hm2 PyProof.Rows.boot_zip (PyProof.Rows.callWith_type1 (thn (ha.run pos2 pins s σ H _ I h) fun us s1 ⟨vs, H1, I1, r1, q1⟩ => ?_) hs hpl)))
  obtain ⟨k1, a, k2, b, xs, ys, ev, hq1, hq2, q⟩ := q1
  subst ev
  obtain ⟨u, w, rfl, ru, rw'⟩ := vals2 r1
  cases ru
  cases rw'
  obtain ⟨its1, v1, p1, l1⟩ := inv_src I1 hq1
  obtain ⟨its2, v2, p2, l2⟩ := inv_src I1 hq2
  refine zip_begins2 (beg_ok k1 a its1.toArray) (beg_ok k2 b its2.toArray) p1 p2 fun h' hz hI hO hb1 hb2 hsz hk => ?_
  have last : ∀ {Q : List Value → Shared → Prop} {E : Value → Shared → Prop} {s' : Shared}, Q [] s' → wpAny (model X.prog X.w) X.A (spliced (backTo pos (starEach [] X.env))) Q E s' := fun q => by
    show wpAny _ _ (spliced []) _ _ _
    exact wpAny_pure q
  refine last (call_enz (TI := s1.heap.objs.size + 2) (TO := s1.heap.objs.size + 3) hz fun m he km => wpAny_pyIter_enum he ?_)
  have hk2 : ∀ d o, s1.heap.get? d = some o → m.get? d = some o := fun d o q => km d o (hk d o q)
  have I2 : Inv X pins σ H1 { s1 with heap := m } := I1.kept (t' := s1.toks) hk2
  have S := zip_sep2 (N := s1.heap.objs.size) (fp1 := [a]) (fp2 := [b]) (fun c hc => by
    have : c = a := by simpa using hc
    rw [this]; exact l1) (fun c hc => by
    have : c = b := by simpa using hc
    rw [this]; exact l2)
  show PIE X pins σ _ R (.ref h'.objs.size) { s1 with heap := m }
  replace he : IsEnum m h'.objs.size (s1.heap.objs.size + 4) 0 .none := he
  rw [hsz] at he ⊢
  have far : ∀ N : Nat, N + 5 ≠ N + 4 ∧ N + 5 ≠ N + 2 ∧ N + 5 ≠ N + 3 ∧ N + 5 ≠ N ∧ N + 5 ≠ N + 1 := fun N => by omega
  have off : ∀ {N d : Nat}, d < N → N + 5 ≠ d := fun h => by omega
  refine ⟨s1.heap.objs.size + 5, [s1.heap.objs.size + 5, s1.heap.objs.size + 4, s1.heap.objs.size + 2, s1.heap.objs.size + 3, s1.heap.objs.size, s1.heap.objs.size + 1], _, _, H1, rfl, I2, turn_ez k1 k2 S (far _) ⟨off l1, off l2⟩, ⟨⟨_, he⟩, ⟨.none, false, .inl rfl, km _ _ hz⟩, km _ _ hI, ⟨_, _, km _ _ hO⟩, beg_it (km _ _ hb1), beg_it (km _ _ hb2)⟩, fun c hcm => ?_, q⟩
  have hle : s1.heap.objs.size ≤ c := by
    have hc' : c = s1.heap.objs.size + 5 ∨ c = s1.heap.objs.size + 4 ∨ c = s1.heap.objs.size + 2 ∨ c = s1.heap.objs.size + 3 ∨ c = s1.heap.objs.size ∨ c = s1.heap.objs.size + 1 := by simpa using hcm
    rcases hc' with z | z | z | z | z | z <;> rw [z] <;> first | exact Nat.le_refl _ | exact Nat.le_add_right _ _
  exact I1.fpOk hle (I1.hok.fresh hle)
end
section
variable {X : Cx} {c : Fx} {W : WX}
theorem walkD_ez {G1 : Hp} {k1 k2 : Bool} {a b : Addr} {vs ws : List V} {ds es : List D} (h : ∀ H2, Sub G1 H2 → sqS c.K H2 k1 a vs) (d : Dats c.K G1 c.L vs ds) (h' : ∀ H2, Sub G1 H2 → sqS c.K H2 k2 b ws) (d' : Dats c.K G1 c.L ws es) : WalkD c (fun H G => Sub G1 G ∧ Sub G H) (ItEZ c.K k1 a k2 b) (enumD 0 (zipD ds es)) where
  go := fun i H G hi ⟨s, s2⟩ => by
    rw [enumD_len, zipD_len] at hi
    have i1 : i < ds.length := by omega
    have i2 : i < es.length := by omega
    obtain ⟨v, h1, _⟩ := d.get (i := i) (d := ds[i]) (List.getElem?_eq_getElem i1)
    obtain ⟨u, h2, _⟩ := d'.get (i := i) (d := es[i]) (List.getElem?_eq_getElem i2)
    exact ⟨vs, ws, v, u, h H (s.trans s2), h' H (s.trans s2), h1, h2⟩
  stop := fun H G ⟨s, s2⟩ => ⟨vs, ws, h H (s.trans s2), h' H (s.trans s2), by rw [enumD_len, zipD_len, d.length, d'.length]⟩
  yld := fun i H G x H' hi ⟨s, s2⟩ s3 ⟨T, U, y, z, e1, e2, e2', e3, e4, e5⟩ => by
    subst e1 e3
    rw [enumD_len, zipD_len] at hi
    have i1 : i < ds.length := by omega
    have i2 : i < es.length := by omega
    obtain ⟨v, h1, h2⟩ := d.get (i := i) (d := ds[i]) (List.getElem?_eq_getElem i1)
    obtain ⟨u, h3, h4⟩ := d'.get (i := i) (d := es[i]) (List.getElem?_eq_getElem i2)
    have hx := e4 vs (h H (s.trans s2))
    rw [h1] at hx
    have hx := Option.some.inj hx
    subst hx
    have hy := e5 ws (h' H (s.trans s2))
    rw [h3] at hy
    have hy := Option.some.inj hy
    subst hy
    have gT : G T = none := by
      cases q : G T with
      | none => rfl
      | some o => rw [s3 T o q] at e2; cases e2
    have UT : U ≠ T := fun z => by rw [z, upd_same] at e2'; cases e2'
    have hU : H U = none := by rw [upd_ne UT] at e2'; exact e2'
    have gU : G U = none := by
      cases q : G U with
      | none => rfl
      | some o => rw [s3 U o q] at hU; cases hU
    have gU' : (upd G T (.tup [v, u])) U = none := by rw [upd_ne UT]; exact gU
    have A1 := sub_upd (o := HO.tup [v, u]) gT
    have A2 := sub_upd (o := HO.tup [.int (i : Int), .ref T]) gU'
    refine ⟨upd (upd G T (.tup [v, u])) U (.tup [.int (i : Int), .ref T]), (sub_upd e2).trans (sub_upd e2'), A1.trans A2, fun b o q => ?_, fun b o q => ?_, .tup [.int (0 + (i : Int)), .tup [ds[i], es[i]]], enumD_get _ 0 i _ (zipD_get ds es i _ _ (List.getElem?_eq_getElem i1) (List.getElem?_eq_getElem i2)), ?_⟩
    · by_cases hb : b = U
      · subst hb; rw [upd_same] at q ⊢; exact q
      · rw [upd_ne hb] at q ⊢
        by_cases hb2 : b = T
        · subst hb2; rw [upd_same] at q ⊢; exact q
        · rw [upd_ne hb2] at q ⊢; exact s3 b o q
    · by_cases hb : b = U
      · subst hb; exact .inr hU
      · rw [upd_ne hb] at q
        by_cases hb2 : b = T
        · subst hb2; exact .inr e2
        · rw [upd_ne hb2] at q; exact .inl q
    · refine .tup (SqT.of upd_same) (.cons (by rw [Int.zero_add]; exact .int _) (.cons ?_ .nil))
      have hT2 : (upd (upd G T (.tup [v, u])) U (.tup [.int (i : Int), .ref T])) T = some (.tup [v, u]) := by rw [upd_ne (Ne.symm UT)]; exact upd_same
      exact .tup (SqT.of hT2) (.cons ((h2.up s).up (A1.trans A2)) (.cons ((h4.up s).up (A1.trans A2)) .nil))
theorem di_enz {e e2 : Expr} {f g : FE} {elts : List Expr} {kk : Nat} {p pos p2 pos2 tpos : Pos} (hm : X.mg "enumerate" = none) (hm2 : X.mg "zip" = none) (ha : DE X c W e f) (hb : DE X c W e2 g) (hgl : Gl X "enumerate" := by rfl) (hgl2 : Gl X "zip" := by rfl) (hk : X.K = c.K := by rfl)
    (hs : starEach [e, e2] X.env = (false, eval e X.env) :: starEach [e2] X.env := by rfl) (hs2 : starEach [e2] X.env = (false, eval e2 X.env) :: starEach [] X.env := by rfl) (hpl : (backTo pos2 (starEach [e2] X.env)).any (·.1) = false := by rfl)
    (ho : starEach [.Call (.Name "zip" p2) [e, e2] [] pos2] X.env = (false, eval (.Call (.Name "zip" p2) [e, e2] [] pos2) X.env) :: starEach [] X.env := by rfl) :
    DI X c W (.Tuple elts kk tpos) (.Call (.Name "enumerate" p) [.Call (.Name "zip" p2) [e, e2] [] pos2] [] pos) (fEnz f g) := PI.of (pi_ez hgl hm hgl2 hm2 (pa_cons ha (pa_cons hb pa_nil hs2) hs) hs hpl ho) fun σ H Q q => by
  obtain ⟨G, env, μ, R, q⟩ := q
  have q : iG c W σ H G env ((f env μ).bind fun x μ => (g env μ).bind fun y μ => match x, y with
    | .val d, .val e => match srcD d, srcD e with
      | some ds, some es => .ok (enumD 0 (zipD ds es)) μ
      | _, _ => .bad
    | _, _ => .bad) Q := by
    have e : (fEnz f g env μ) = ((f env μ).bind fun x μ => (g env μ).bind fun y μ => match x, y with
      | .val d, .val e => match srcD d, srcD e with
        | some ds, some es => .ok (enumD 0 (zipD ds es)) μ
        | _, _ => .bad
      | _, _ => .bad) := by
      unfold fEnz fZp
      cases f env μ with
      | bad => rfl
      | exc z m => rfl
      | ok x m =>
        show ((g env m).bind _).bind _ = (g env m).bind _
        cases g env m with
        | bad => rfl
        | exc z m => rfl
        | ok y m =>
          show Res.bind (match x, y with
            | .val d, .val e => match srcD d, srcD e with
              | some ds, some es => .ok (zipD ds es) m
              | _, _ => .bad
            | _, _ => .bad) _ = (match x, y with
            | .val d, .val e => match srcD d, srcD e with
              | some ds, some es => .ok (enumD 0 (zipD ds es)) m
              | _, _ => .bad
            | _, _ => .bad)
          cases x with
          | own i => rfl
          | val d =>
            cases y with
            | own i => rfl
            | val e =>
              show Res.bind (match srcD d, srcD e with
                | some ds, some es => .ok (zipD ds es) m
                | _, _ => .bad) _ = (match srcD d, srcD e with
                | some ds, some es => .ok (enumD 0 (zipD ds es)) m
                | _, _ => .bad)
              cases srcD d <;> cases srcD e <;> rfl
    rw [← e]; exact q
  refine ⟨G, env, μ, R, (iG.bind q).imp (fun _ _ _ _ h => h) ?_⟩
  rintro v H1 ⟨G1, μ1, x, x1, R1, d1, q1⟩
  refine ⟨G1, env, μ1, R1, (iG.bind q1).imp (fun _ _ _ _ h => h) ?_⟩
  rintro u H2 ⟨G2, μ2, y, x2, R2, d2, q2⟩
  cases x with
  | own i => exact q2.elim
  | val d =>
    cases y with
    | own i => exact q2.elim
    | val e =>
      dsimp only at q2
      split at q2
      · rename_i ds es e1 e2
        obtain ⟨k, a, vs, rfl, h1, h2⟩ := src_at R2.sub (Dat.up x2.gg d1) e1
        obtain ⟨k', a', vs', rfl, h1', h2'⟩ := src_at R2.sub d2 e2
        exact ⟨k, a, k', a', vs, vs', rfl, hk ▸ h1 H2 R2.sub, hk ▸ h1' H2 R2.sub, q2.now R2 (hk ▸ walkD_ez h1 h2 h1' h2')⟩
      · exact q2.elim
end
end Q

set_option Elab.async false
set_option linter.all false
set_option maxRecDepth 100000
set_option maxHeartbeats 4000000
/-! QS: the order of data, and what sorting gives. -/
namespace Q
open PySem PySem.Spec PyProof.Rows L2
theorem ltN_iff : ∀ xs ys : List Nat, ltN xs ys = decide (xs < ys)
  | xs, [] => by
    have : ¬ xs < [] := by simp
    simp [ltN]
  | [], y :: ys => by simp [ltN]
  | x :: xs, y :: ys => by
    by_cases e : x = y
    · subst e
      simp [ltN, ltN_iff xs ys]
    · simp [ltN, e, List.cons_lt_cons_iff]
theorem ltN_tri : ∀ xs ys : List Nat, ltN xs ys = false → ltN ys xs = false → xs = ys
  | [], [], _, _ => rfl
  | [], y :: ys, h, _ => by simp [ltN] at h
  | x :: xs, [], _, h => by simp [ltN] at h
  | x :: xs, y :: ys, h1, h2 => by
    by_cases e : x = y
    · subst e
      simp [ltN] at h1 h2
      rw [ltN_tri xs ys h1 h2]
    · have e' : ¬ y = x := fun z => e z.symm
      simp [ltN, e, e'] at h1 h2
      omega
theorem str_cps {x y : Str} (h : x.cps.toList = y.cps.toList) : x = y := by
  have e : x.cps = y.cps := Array.toList_inj.mp h
  cases x
  cases y
  exact congrArg _ e
mutual
theorem cmp_eq : ∀ x y : D, D.cmp x y = true → D.eq x y = true → x = y
  | .int i, y, h, e => by cases y <;> first | (simp [D.cmp] at h; done) | (simp [D.eq] at e; rw [e])
  | .str i, y, h, e => by cases y <;> first | (simp [D.cmp] at h; done) | (simp [D.eq] at e; rw [e])
  | .tup xs, y, h, e => by
    cases y <;> first
      | (simp [D.cmp] at h; done)
      | (simp only [D.cmp] at h; simp only [D.eq] at e; rw [cmps_eq _ _ h e])
  | .non, y, h, _ => by cases y <;> simp [D.cmp] at h
  | .bl _, y, h, _ => by cases y <;> simp [D.cmp] at h
  | .lst _, y, h, _ => by cases y <;> simp [D.cmp] at h
  | .frz _, y, h, _ => by cases y <;> simp [D.cmp] at h
  | .loc _, y, h, _ => by cases y <;> simp [D.cmp] at h
  | .ty _, y, h, _ => by cases y <;> simp [D.cmp] at h
theorem cmps_eq : ∀ xs ys : List D, D.cmps xs ys = true → D.eqs xs ys = true → xs = ys
  | [], [], _, _ => rfl
  | [], _ :: _, _, e => by simp [D.eqs] at e
  | _ :: _, [], _, e => by simp [D.eqs] at e
  | x :: xs, y :: ys, h, e => by
    simp only [D.cmps, Bool.and_eq_true] at h
    simp only [D.eqs, Bool.and_eq_true] at e
    rw [cmp_eq x y h.1 e.1, cmps_eq xs ys h.2 e.2]
end
mutual
theorem cmp_sym : ∀ x y : D, D.cmp x y = D.cmp y x
  | .int i, y => by cases y <;> rfl
  | .str i, y => by cases y <;> rfl
  | .tup xs, y => by
    cases y <;> first | rfl | (simp only [D.cmp]; exact cmps_sym _ _)
  | .non, y => by cases y <;> rfl
  | .bl _, y => by cases y <;> rfl
  | .lst _, y => by cases y <;> rfl
  | .frz _, y => by cases y <;> rfl
  | .loc _, y => by cases y <;> rfl
  | .ty _, y => by cases y <;> rfl
theorem cmps_sym : ∀ xs ys : List D, D.cmps xs ys = D.cmps ys xs
  | [], [] => rfl
  | [], _ :: _ => rfl
  | _ :: _, [] => rfl
  | x :: xs, y :: ys => by simp only [D.cmps]; rw [cmp_sym x y, cmps_sym xs ys]
end
mutual
theorem eq_sym : ∀ x y : D, D.cmp x y = true → D.eq x y = D.eq y x
  | .int i, y, h => by cases y <;> first | (simp [D.cmp] at h; done) | (simp only [D.eq]; exact Bool.beq_comm)
  | .str i, y, h => by cases y <;> first | (simp [D.cmp] at h; done) | (simp only [D.eq]; exact Bool.beq_comm)
  | .tup xs, y, h => by
    cases y <;> first
      | (simp [D.cmp] at h; done)
      | (simp only [D.cmp] at h; simp only [D.eq]; exact eqs_sym _ _ h)
  | .non, y, h => by cases y <;> simp [D.cmp] at h
  | .bl _, y, h => by cases y <;> simp [D.cmp] at h
  | .lst _, y, h => by cases y <;> simp [D.cmp] at h
  | .frz _, y, h => by cases y <;> simp [D.cmp] at h
  | .loc _, y, h => by cases y <;> simp [D.cmp] at h
  | .ty _, y, h => by cases y <;> simp [D.cmp] at h
theorem eqs_sym : ∀ xs ys : List D, D.cmps xs ys = true → D.eqs xs ys = D.eqs ys xs
  | [], [], _ => rfl
  | [], _ :: _, _ => rfl
  | _ :: _, [], _ => rfl
  | x :: xs, y :: ys, h => by
    simp only [D.cmps, Bool.and_eq_true] at h
    simp only [D.eqs]
    rw [eq_sym x y h.1, eqs_sym xs ys h.2]
end
mutual
theorem lt_tri : ∀ x y : D, D.cmp x y = true → D.lt x y = false → D.lt y x = false → x = y
  | .int i, y, h, a, b => by
    cases y <;> first | (simp [D.cmp] at h; done) | skip
    rename_i j
    simp only [D.lt, decide_eq_false_iff_not] at a b
    have : i = j := by omega
    rw [this]
  | .str i, y, h, a, b => by
    cases y <;> first | (simp [D.cmp] at h; done) | skip
    simp only [D.lt] at a b
    rw [str_cps (ltN_tri _ _ a b)]
  | .tup xs, y, h, a, b => by
    cases y <;> first | (simp [D.cmp] at h; done) | skip
    simp only [D.cmp] at h
    simp only [D.lt] at a b
    rw [lts_tri _ _ h a b]
  | .non, y, h, _, _ => by cases y <;> simp [D.cmp] at h
  | .bl _, y, h, _, _ => by cases y <;> simp [D.cmp] at h
  | .lst _, y, h, _, _ => by cases y <;> simp [D.cmp] at h
  | .frz _, y, h, _, _ => by cases y <;> simp [D.cmp] at h
  | .loc _, y, h, _, _ => by cases y <;> simp [D.cmp] at h
  | .ty _, y, h, _, _ => by cases y <;> simp [D.cmp] at h
theorem lts_tri : ∀ xs ys : List D, D.cmps xs ys = true → D.lts xs ys = false → D.lts ys xs = false → xs = ys
  | [], [], _, _, _ => rfl
  | [], _ :: _, _, a, _ => by simp [D.lts] at a
  | _ :: _, [], _, _, b => by simp [D.lts] at b
  | x :: xs, y :: ys, h, a, b => by
    simp only [D.cmps, Bool.and_eq_true] at h
    simp only [D.lts] at a b
    rw [← eq_sym x y h.1] at b
    by_cases e : D.eq x y = true
    · rw [if_pos e] at a b
      rw [cmp_eq x y h.1 e, lts_tri xs ys h.2 a b]
    · rw [if_neg e] at a b
      have q := lt_tri x y h.1 a b
      subst q
      exact absurd (eq_self x h.1) e
theorem eq_self : ∀ x : D, D.cmp x x = true → D.eq x x = true
  | .int i, _ => by simp [D.eq]
  | .str i, _ => by simp [D.eq]
  | .tup xs, h => by
    simp only [D.cmp] at h
    simp only [D.eq]
    exact eqs_self xs h
  | .non, h => by simp [D.cmp] at h
  | .bl _, h => by simp [D.cmp] at h
  | .lst _, h => by simp [D.cmp] at h
  | .frz _, h => by simp [D.cmp] at h
  | .loc _, h => by simp [D.cmp] at h
  | .ty _, h => by simp [D.cmp] at h
theorem eqs_self : ∀ xs : List D, D.cmps xs xs = true → D.eqs xs xs = true
  | [], _ => rfl
  | x :: xs, h => by
    simp only [D.cmps, Bool.and_eq_true] at h
    simp only [D.eqs, Bool.and_eq_true]
    exact ⟨eq_self x h.1, eqs_self xs h.2⟩
end
mutual
theorem cmp_alike : ∀ x y : D, D.cmp x y = true → PySem.W.alike (D.py x) (D.py y) = true
  | .int i, y, h => by cases y <;> first | (simp [D.cmp] at h; done) | (simp [D.py, PySem.W.alike])
  | .str i, y, h => by cases y <;> first | (simp [D.cmp] at h; done) | (simp [D.py, PySem.W.alike])
  | .tup xs, y, h => by
    cases y <;> first
      | (simp [D.cmp] at h; done)
      | (simp only [D.cmp] at h; simp only [D.py, PySem.W.alike]; exact cmps_alike _ _ h)
  | .non, y, h => by cases y <;> simp [D.cmp] at h
  | .bl _, y, h => by cases y <;> simp [D.cmp] at h
  | .lst _, y, h => by cases y <;> simp [D.cmp] at h
  | .frz _, y, h => by cases y <;> simp [D.cmp] at h
  | .loc _, y, h => by cases y <;> simp [D.cmp] at h
  | .ty _, y, h => by cases y <;> simp [D.cmp] at h
theorem cmps_alike : ∀ xs ys : List D, D.cmps xs ys = true → PySem.W.alikeAll (D.pys xs) (D.pys ys) = true
  | [], [], _ => by simp [D.pys, PySem.W.alikeAll]
  | [], _ :: _, _ => by simp [D.pys, PySem.W.alikeAll]
  | _ :: _, [], _ => by simp [D.pys, PySem.W.alikeAll]
  | x :: xs, y :: ys, h => by
    simp only [D.cmps, Bool.and_eq_true] at h
    simp only [D.pys, PySem.W.alikeAll, Bool.and_eq_true]
    exact ⟨cmp_alike x y h.1, cmps_alike xs ys h.2⟩
end
mutual
theorem lt_py : ∀ x y : D, D.cmp x y = true → D.plain x = true → D.plain y = true → PySem.W.dataLt (D.py x) (D.py y) = D.lt x y
  | .int i, y, h, _, _ => by
    cases y <;> first | (simp [D.cmp] at h; done) | (simp only [D.py, D.lt]; exact PySem.W.dataLt_int _ _)
  | .str i, y, h, _, _ => by
    cases y <;> first | (simp [D.cmp] at h; done) | skip
    simp only [D.py, D.lt]
    rw [PySem.W.dataLt_str, ltN_iff]
  | .tup xs, y, h, a, b => by
    cases y <;> first | (simp [D.cmp] at h; done) | skip
    simp only [D.cmp] at h
    simp only [D.py, D.lt]
    rw [PySem.W.dataLt_tuple]
    exact lts_py _ _ h a b
  | .non, y, h, _, _ => by cases y <;> simp [D.cmp] at h
  | .bl _, y, h, _, _ => by cases y <;> simp [D.cmp] at h
  | .lst _, y, h, _, _ => by cases y <;> simp [D.cmp] at h
  | .frz _, y, h, _, _ => by cases y <;> simp [D.cmp] at h
  | .loc _, y, h, _, _ => by cases y <;> simp [D.cmp] at h
  | .ty _, y, h, _, _ => by cases y <;> simp [D.cmp] at h
theorem lts_py : ∀ xs ys : List D, D.cmps xs ys = true → D.plains xs = true → D.plains ys = true → PyProof.Rows.lexLt itemOrd (PySem.W.keyToksAll (D.pys xs)) (PySem.W.keyToksAll (D.pys ys)) = D.lts xs ys
  | [], [], _, _, _ => by simp [D.pys, D.lts, PySem.W.keyToksAll, lex_irrefl]
  | [], y :: ys, _, _, _ => by
    simp only [D.pys, D.lts]
    rw [PySem.W.toks_all_cons]
    simp only [PySem.W.keyToksAll]
    rw [lex_diff (O := itemOrd) (by simp)]
    simp [itemLt]
  | x :: xs, [], _, _, _ => by
    simp only [D.pys, D.lts]
    rw [PySem.W.toks_all_cons]
    simp only [PySem.W.keyToksAll]
    rw [lex_diff (O := itemOrd) (by simp)]
    simp [itemLt]
  | x :: xs, y :: ys, h, a, b => by
    simp only [D.cmps, Bool.and_eq_true] at h
    simp only [D.plains, Bool.and_eq_true] at a b
    have al := cmp_alike x y h.1
    have ev := D.eqv_py x y a.1 b.1
    simp only [D.pys, D.lts]
    cases e : D.eq x y with
    | true =>
      rw [PySem.W.dataLt_all_yes al (by rw [ev, e])]
      simp only [if_true]
      exact lts_py xs ys h.2 a.2 b.2
    | false =>
      rw [PySem.W.dataLt_all_no al (by rw [ev, e])]
      simp only [Bool.false_eq_true, if_false]
      exact lt_py x y h.1 a.1 b.1
end
/-! ### insertion -/
theorem ins_perm (x : D) : ∀ l : List D, (ins x l).Perm (x :: l)
  | [] => .refl _
  | y :: l => by
    unfold ins
    split
    · exact ((ins_perm x l).cons y).trans (.swap x y l)
    · exact .refl _
theorem isort_perm : ∀ l : List D, (isort l).Perm l
  | [] => .refl _
  | x :: l => (ins_perm x _).trans ((isort_perm l).cons x)
abbrev leD (a b : D) : Bool := PySem.W.dataLe false D.py a b
theorem leD_total : PySem.W.TotalLe leD := PySem.W.sortLe_total _ _ _
theorem ins_pw {S : D → Prop} (x : D) (hx : S x) (hlt : ∀ a b, S a → S b → PySem.W.dataLt (D.py a) (D.py b) = D.lt a b) : ∀ l : List D, (∀ y ∈ l, S y) → l.Pairwise (fun a b => leD a b = true) → (ins x l).Pairwise (fun a b => leD a b = true)
  | [], _, _ => List.pairwise_singleton _ _
  | y :: l, hs, hp => by
    have hy : S y := hs y List.mem_cons_self
    obtain ⟨h1, h2⟩ := List.pairwise_cons.mp hp
    unfold ins
    split
    · rename_i hl
      refine List.pairwise_cons.mpr ⟨fun z hz => ?_, ins_pw x hx hlt l (fun z hz => hs z (List.mem_cons_of_mem _ hz)) h2⟩
      rcases List.mem_cons.mp ((ins_perm x l).mem_iff.mp hz) with e | hz
      · subst e
        show (!PySem.W.dataLt (D.py z) (D.py y)) = true
        have h3 : PySem.W.dataLt (D.py y) (D.py z) = true := by rw [hlt y z hy hx, hl]
        cases h4 : PySem.W.dataLt (D.py z) (D.py y) with
        | false => rfl
        | true =>
          have := (listOrd itemOrd).trans _ _ _ h3 h4
          rw [(listOrd itemOrd).irrefl] at this
          cases this
      · exact h1 z hz
    · rename_i hl
      have hxy : leD x y = true := by
        show (!PySem.W.dataLt (D.py y) (D.py x)) = true
        rw [hlt y x hy hx]
        simpa using hl
      exact List.pairwise_cons.mpr ⟨fun z hz => by
        rcases List.mem_cons.mp hz with e | hz
        · rw [e]; exact hxy
        · exact leD_total.trans _ _ _ hxy (h1 z hz), hp⟩
theorem isort_pw {S : D → Prop} (hlt : ∀ a b, S a → S b → PySem.W.dataLt (D.py a) (D.py b) = D.lt a b) : ∀ l : List D, (∀ y ∈ l, S y) → (isort l).Pairwise (fun a b => leD a b = true)
  | [], _ => .nil
  | x :: l, hs => ins_pw x (hs x List.mem_cons_self) hlt _ (fun y hy => hs y (List.mem_cons_of_mem _ ((isort_perm l).mem_iff.mp hy))) (isort_pw hlt l fun y hy => hs y (List.mem_cons_of_mem _ hy))
theorem plains_mem : ∀ {ds : List D}, D.plains ds = true → ∀ d ∈ ds, D.plain d = true
  | [], _, d, h => by cases h
  | x :: xs, p, d, h => by
    simp only [D.plains, Bool.and_eq_true] at p
    rcases List.mem_cons.mp h with e | h
    · rw [e]; exact p.1
    · exact plains_mem p.2 d h
theorem deps_mem : ∀ {ds : List D} {n : Nat}, D.deps ds ≤ n → ∀ d ∈ ds, D.dep d ≤ n
  | [], _, _, d, h => by cases h
  | x :: xs, n, p, d, h => by
    simp only [D.deps] at p
    rcases List.mem_cons.mp h with e | h
    · rw [e]; omega
    · exact deps_mem (n := n) (by omega) d h
structure Okay (ds : List D) : Prop where
  cmp : ∀ d ∈ ds, ∀ e ∈ ds, D.cmp d e = true
  pl : ∀ d ∈ ds, D.plain d = true
  dp : ∀ d ∈ ds, D.dep d ≤ 60
theorem sortable_ok {ds : List D} (h : sortable ds = true) : Okay ds := by
  unfold sortable at h
  simp only [Bool.and_eq_true, List.all_eq_true, decide_eq_true_eq] at h
  exact ⟨h.1.1, plains_mem h.1.2, deps_mem h.2⟩
theorem sort_is {ds : List D} (h : Okay ds) : ds.mergeSort (PySem.W.dataLe false D.py) = isort ds := by
  have hlt : ∀ a b, a ∈ ds → b ∈ ds → PySem.W.dataLt (D.py a) (D.py b) = D.lt a b := fun a b ha hb => lt_py a b (h.cmp a ha b hb) (h.pl a ha) (h.pl b hb)
  have p1 := List.mergeSort_perm ds (PySem.W.dataLe false D.py)
  have s1 : (ds.mergeSort (PySem.W.dataLe false D.py)).Pairwise (fun a b => leD a b = true) := List.pairwise_mergeSort (le := leD) (fun a b c => leD_total.trans a b c) (fun a b => by rcases leD_total.total a b with q | q <;> simp [q]) ds
  have s2 := isort_pw (S := (· ∈ ds)) hlt ds fun y hy => hy
  refine List.Perm.eq_of_pairwise (le := fun a b => leD a b = true) (fun a b ha hb h1 h2 => ?_) s1 s2 (p1.trans (isort_perm ds).symm)
  have ha := p1.mem_iff.mp ha
  have hb := (isort_perm ds).mem_iff.mp hb
  have e1 : (!PySem.W.dataLt (D.py b) (D.py a)) = true := h1
  have e2 : (!PySem.W.dataLt (D.py a) (D.py b)) = true := h2
  rw [hlt b a hb ha] at e1
  rw [hlt a b ha hb] at e2
  exact lt_tri a b (h.cmp a ha b hb) (by simpa using e2) (by simpa using e1)
end Q

set_option Elab.async false
set_option linter.all false
set_option maxRecDepth 100000
set_option maxHeartbeats 4000000
/-! QT: sorted of data, the empty tuple among them. -/
namespace Q
open PySem PySem.Spec PyProof.Rows L2
open PySem.W (Looks SortsAt AllAlike Sortable dataKind dataLt alike alikeAll EachIs)
section
variable {prog : Program} {w : World} {A : Around} {E : Value → Shared → Prop} {s : Shared}
open PySem.SeqAt in
/-- two tuples, by their own < -/
theorem one_tup {xs ys : List PyData} {a b : Value} {as bs : List Addr} {Q : Bool → Shared → Prop} (ra : Reads s.heap a (.tuple xs) as) (rb : Reads s.heap b (.tuple ys) bs) (h : alikeAll xs ys = true)
    (hu : A.units + min (PyData.tuple xs).depth (PyData.tuple ys).depth < cLine) (hq : Q (dataLt (.tuple xs) (.tuple ys)) s) : wpAny (model prog w) A (oneLt' true a b) Q E s := by
  cases ra with
  | @tuple l o vs n _ as1 h1 h2 h3 h4 =>
    cases rb with
    | @tuple l' o' vs' n' _ bs1 k1 k2 k3 k4 =>
      have n1 : vs.size = xs.length := by simpa using ReadsAll.length _ _ _ h4
      have n2 : vs'.size = ys.length := by simpa using ReadsAll.length _ _ _ k4
      rw [PySem.W.dataLt_tuple, ← PySem.W.firstLt_toks xs ys h, ← n1, ← n2] at hq
      obtain ⟨cls, dd, data, sl⟩ := o
      obtain ⟨cls', dd', data', sl'⟩ := o'
      simp only at h2 h3 k2 k3
      subst h2 h3 k2 k3
      rw [oneLt'_eq]
      simp only [if_true]
      refine wpAny_bind (wpAny_cRoomFor (room_here hu) (wpAny_bind (wpAny_callSpecialIfBound?_slot (T := "tuple") ⟨_, h1, rfl⟩ F.slot_tuple_lt ?_)))
      refine call_meets F.slot_tuple_lt ⟨_, h1, rfl⟩ F.entry_tuple_lt (F.args_tuple_lt_2 _ _) (tuple_ltAt l l' vs vs' n n' dd dd' sl sl' (pairEq xs ys) (fun j => dataLt (xs.getD j .none) (ys.getD j .none))) ⟨h1, k1, fun j j1 j2 => ?_, fun j j1 j2 hj => ?_, ?_⟩
      · have q := PySem.W.eqAt_alikeAll xs ys A.in1 s vs.toList vs'.toList _ _ h4 k4 h (room_in hu) j (by simpa using j1) (by simpa using j2)
        simpa using q
      · have q := PySem.W.rcLt_alikeAll xs ys A.in1 s vs.toList vs'.toList _ _ h4 k4 h (room_in hu) j (by simpa using j1) (by simpa using j2) hj
        simpa using q
      · exact wpAny_truthy_bool hq
def noEmpty : PyData → Bool
  | .tuple (_ :: _) => true
  | _ => false
theorem firsts_any : ∀ {vs : List Value} {ds : List PyData} {Q : List (Option Value) → Shared → Prop}, EachIs (fun v d => ∃ as, Reads s.heap v d as) vs ds → (∀ d ∈ ds, ∃ xs, d = .tuple xs) → (∀ fs : List (Option Value), fs.map (·.isSome) = ds.map noEmpty → Q fs s) → wpAny (model prog w) A (vs.mapM firstOfTuple') Q E s
  | _, _, Q, .nil, _, h => by rw [List.mapM_nil]; exact wpAny_pure (h [] rfl)
  | v :: vs, d :: ds, Q, .cons ⟨as, r⟩ t, ht, h => by
    obtain ⟨xs, rfl⟩ := ht d List.mem_cons_self
    rw [List.mapM_cons]
    refine wpAny_bind ?_
    cases r with
    | @tuple a o vals n _ as1 h1 h2 h3 h4 =>
      rw [PySem.W.kas_first_eq]
      refine wpAny_bind (Looks.here (show Looks (model prog w) s.heap (typeOf (.ref a)) o.cls from (Looks.ld h1).andThen .now) ?_)
      rw [h2, if_neg (by first | decide | simp)]
      refine wpAny_bind (listItems_at h1 h3 (wpAny_pure ?_))
      refine wpAny_bind (firsts_any t (fun d hd => ht d (List.mem_cons_of_mem _ hd)) fun fs hfs => wpAny_pure (h _ ?_))
      rw [List.map_cons, List.map_cons, hfs]
      congr 1
      have n1 : vals.toList.length = xs.length := by simpa using SeqAt.ReadsAll.length _ _ _ h4
      rw [Array.length_toList] at n1
      cases xs with
      | nil =>
        have e : vals[0]? = none := Array.getElem?_eq_none (by rw [n1]; exact Nat.le_refl _)
        rw [e]
        rfl
      | cons x xs =>
        have l0 : 0 < vals.size := by rw [n1]; exact Nat.succ_pos _
        rw [Array.getElem?_eq_getElem l0]
        rfl
/-- data that are alike and no None can be sorted -/
theorem sorts_any {vs : List Value} {ds : List PyData} (e : EachIs (fun v d => ∃ as, Reads s.heap v d as) vs ds) (hal : AllAlike ds) (hn : ∀ d ∈ ds, d ≠ .none) (hu : ∀ d ∈ ds, A.units + d.depth < cLine) : SortsAt prog w A s (dataKind s.heap ds) vs := by
  by_cases hs : Sortable ds
  · exact SortsAt.data e hal hs hu
  · -- all are tuples, one of them is empty
    have tups : ∀ d ∈ ds, ∃ xs, d = .tuple xs := fun d hd => by
      refine Classical.byContradiction fun no => hs (.inr fun u hu => ⟨hn u hu, fun xs z => no ?_⟩)
      have q := hal u hu d hd
      rw [z] at q
      cases d with
      | tuple ys => exact ⟨ys, rfl⟩
      | _ => simp [alike] at q
    have ne : ds.map noEmpty ≠ ds.map fun _ => true := fun z => hs (.inl fun d hd => by
      obtain ⟨xs, rfl⟩ := tups d hd
      have q : noEmpty (.tuple xs) = true := by
        have := List.map_inj_left.mp z _ hd
        exact this
      cases xs with
      | nil => cases q
      | cons x r => exact ⟨x, r, rfl⟩)
    have two : ∀ d ∈ ds, ∀ u ∈ ds, A.units + min d.depth u.depth < cLine := fun d hd u _ => Nat.lt_of_le_of_lt (Nat.add_le_add_left (Nat.min_le_left _ _) _) (hu d hd)
    have types : ∀ v ∈ vs, Looks (model prog w) s.heap (typeOf v) (.type "tuple") := fun v hv => by
      obtain ⟨d, hd, as, r⟩ := e.left v hv
      obtain ⟨xs, rfl⟩ := tups d hd
      exact PySem.W.looks_reads r
    refine ⟨fun v hv => ?_, ?_⟩
    · obtain ⟨d, hd, as, r⟩ := e.left v hv
      exact ⟨_, PySem.W.dataKind_some hal hd r⟩
    · have lt1 : H.LtAt prog w A s (dataKind s.heap ds) oneType' := by
        intro E x y a b Q ha hb hq
        obtain ⟨d, as, hd, ra, rfl⟩ := PySem.W.dataKind_inv ha
        obtain ⟨u, bs, hd', rb, rfl⟩ := PySem.W.dataKind_inv hb
        obtain ⟨xs, rfl⟩ := tups d hd
        obtain ⟨ys, rfl⟩ := tups u hd'
        rw [keyLt'_oneType]
        exact one_tup ra rb (by have q := hal _ hd _ hd'; simpa [alike] using q) (two _ hd _ hd') hq
      have lt2 : H.LtAt prog w A s (dataKind s.heap ds) general' := by
        intro E x y a b Q ha hb hq
        obtain ⟨d, as, hd, ra, rfl⟩ := PySem.W.dataKind_inv ha
        obtain ⟨u, bs, hd', rb, rfl⟩ := PySem.W.dataKind_inv hb
        show wpAny (model prog w) A (oneLt' false x y) Q E s
        exact PySem.W.oneLt_alike (f := false) (fun z => absurd z Bool.false_ne_true) ra rb (hal _ hd _ hd') (hn _ hd) (two _ hd _ hd') hq
      have kind : ∀ (E : Value → Shared → Prop) {Q : SortKind → Shared → Prop}, 2 ≤ vs.length → Q (if (ds.headD .none |> noEmpty) then general' else oneType') s → wpAny (model prog w) A (keyKind' vs.toArray) Q E s := fun E Q h2 hq => by
        rw [kat_kind_eq, List.mapM_toArray, map_eq_pure_bind]
        refine wpAny_bind (wpAny_bind (firsts_any e tups fun fs hfs => wpAny_pure ?_))
        have notall : ¬ (fs.toArray.all (·.isSome)) = true := fun z => ne (by
          rw [← hfs]
          have z' : ∀ x ∈ fs, x.isSome = true := by simpa using z
          have l : fs.length = ds.length := by simpa using congrArg List.length hfs
          rw [List.map_congr_left (g := fun _ => true) (fun x hx => z' x hx), List.map_const', List.map_const', l])
        rw [if_neg notall]
        cases e with
        | nil => simp at h2
        | cons r t =>
          rename_i v d vs' ds'
          cases fs with
          | nil => simp at hfs
          | cons f fr =>
            have hf : f.isSome = noEmpty d := by
              have q := List.cons.inj hfs
              exact q.1
            have h0 : ((f :: fr).toArray[0]?.bind id).isSome = noEmpty d := by
              rw [← hf]
              simp
            rw [h0]
            have hq : Q (if noEmpty d = true then general' else oneType') s := hq
            cases nd : noEmpty d with
            | true =>
              rw [nd] at hq
              simp only [if_true] at hq ⊢
              exact wpAny_pure hq
            | false =>
              rw [nd] at hq
              simp only [Bool.false_eq_true, if_false] at hq ⊢
              rw [oneTypeOnly'_eq, List.mapM_toArray, map_eq_pure_bind]
              refine wpAny_bind (wpAny_bind (wpAny_bind (PySem.W.kas_mapM (r := Value.type "tuple") _ (fun u hu Q' hq' => (types u hu).here hq') (wpAny_pure ?_))))
              have h1 : (List.map (fun _ => Value.type "tuple") (v :: vs')).toArray[0]? = some (Value.type "tuple") := by simp
              have hall : ((List.map (fun _ => Value.type "tuple") (v :: vs')).toArray.all fun x => x == Value.type "tuple") = true := by simp
              rw [h1]
              dsimp only
              rw [if_pos hall]
              exact wpAny_pure (wpAny_pure hq)
      by_cases hh : noEmpty (ds.headD .none) = true
      · exact ⟨general', lt2, fun h2 E Q hq => kind E h2 (by rw [show (ds.headD PyData.none |> noEmpty) = true from hh]; exact hq)⟩
      · exact ⟨oneType', lt1, fun h2 E Q hq => kind E h2 (by rw [show (ds.headD PyData.none |> noEmpty) = false by simpa using hh]; exact hq)⟩
end
end Q

set_option Elab.async false
set_option linter.all false
set_option maxRecDepth 100000
set_option maxHeartbeats 4000000
/-! QU: sorted(xs) as a rule. -/
namespace Q
open PySem PySem.Spec PyProof.Rows L2
open PySem.W (Looks SortsAt AllAlike Sortable dataKind dataLt alike alikeAll EachIs)
/-- the values as data -/
def OneD (K : PySem.W.Frag) (G : Hp) (L : List Addr) (u : Value) (d : D) : Prop := ∃ x, RelV x u ∧ Dat K G L x d
theorem each_one {K : PySem.W.Frag} {G : Hp} {L : List Addr} : ∀ {xs : List V} {us : List Value} {ds : List D}, Vals xs us → Dats K G L xs ds → EachIs (OneD K G L) us ds
  | _, _, _, .nil, .nil => .nil
  | _, _, _, .cons r rs, .cons d t => .cons ⟨_, r, d⟩ (each_one rs t)
theorem one_each {K : PySem.W.Frag} {G : Hp} {L : List Addr} : ∀ {us : List Value} {ds : List D}, EachIs (OneD K G L) us ds → ∃ xs, Vals xs us ∧ Dats K G L xs ds
  | _, _, .nil => ⟨[], .nil, .nil⟩
  | _, _, .cons ⟨x, r, d⟩ t => by
    obtain ⟨xs, h1, h2⟩ := one_each t
    exact ⟨x :: xs, .cons r h1, .cons d h2⟩
theorem each_reads {X : Cx} {pins : List (Addr × Obj)} {σ : Sl} {H G : Hp} {L : List Addr} {s : Shared} (I : Inv X pins σ H s) (sub : Sub G H) : ∀ {us : List Value} {ds : List D}, EachIs (OneD X.K G L) us ds → (∀ d ∈ ds, D.plain d = true) → EachIs (fun v d => ∃ as, Reads s.heap v (D.py d) as) us ds
  | _, _, .nil, _ => .nil
  | _, _, .cons ⟨x, r, d⟩ t, p => .cons (Dp.reads I _ x _ (Dat.dp sub d (p _ List.mem_cons_self)) r) (each_reads I sub t fun d hd => p d (List.mem_cons_of_mem _ hd))
def rSortedD (K : PySem.W.Frag) : List V → Hp → VK → Prop := fun vs H Q => ∃ (a : Addr) (xs : List V) (ds : List D) (G : Hp) (L : List Addr), vs = [.ref a] ∧ SqL K H a xs ∧ Sub G H ∧ Dats K G L xs ds ∧ Okay ds ∧
  ∀ (p : Addr) (out : List V), H p = none → Dats K G L out (isort ds) → Q (.ref p) (upd H p (.lst out))
section
variable {X : Cx} {c : Fx} {W : WX}
theorem cr_sortedD (hu : X.A.units + 64 < cLine) : CallR X (.builtin "sorted") (rSortedD X.K) := by
  intro pins s σ H vs us Q I r h
  obtain ⟨a, xs, ds, G, L, rfl, hs, sub, dd, ok, q⟩ := h
  obtain ⟨its, rv, hl, hz⟩ := I.list hs
  rw [Vals.ref1 r]
  have e := each_one rv dd
  have er := each_reads I sub e ok.pl
  have er2 : EachIs (fun v d => ∃ as, Reads (PySem.W.sortingHeap (PySem.W.copyHeap s.heap its) (s.heap.objs.size + 1) its) v (D.py d) as) its ds := er.mono fun _ _ ⟨as, r⟩ => ⟨as, PyProof.Rows.Reads.keeps (fun _ _ => PySem.W.sorting_copy_old) r⟩
  have al : AllAlike (ds.map D.py) := fun x hx y hy => by
    obtain ⟨d, hd, rfl⟩ := List.mem_map.mp hx
    obtain ⟨u, hu, rfl⟩ := List.mem_map.mp hy
    exact cmp_alike d u (ok.cmp d hd u hu)
  have nn : ∀ d ∈ ds.map D.py, d ≠ .none := fun x hx z => by
    have q := al x hx x hx
    obtain ⟨d, hd, e⟩ := List.mem_map.mp hx
    have k := ok.cmp d hd d hd
    rw [z] at e
    cases d with
    | int _ => simp [D.py] at e
    | str _ => simp [D.py] at e
    | tup _ => simp [D.py] at e
    | _ => simp [D.cmp] at k
  have room : ∀ d ∈ ds.map D.py, X.A.in1.in1.units + d.depth < cLine := fun x hx => by
    obtain ⟨d, hd, rfl⟩ := List.mem_map.mp hx
    have h1 := D.dep_py d
    have h2 := ok.dp d hd
    show X.A.units + 1 + 1 + _ < _
    omega
  have len : its.length = ds.length := e.length
  have lz : its.length ≤ sizeLine := by rw [← rv.length]; exact hz
  refine PySem.W.sorted_vals hl.isList (sorts_any (s := { s with heap := PySem.W.sortingHeap (PySem.W.copyHeap s.heap its) (s.heap.objs.size + 1) its }) (PySem.W.each_map (R := fun v d => ∃ as, Reads _ v d as) D.py er2) al nn room) lz ?_
  have out := PySem.W.sortVals_data false e er2 al
  rw [sort_is ok] at out
  obtain ⟨ys, y1, y2⟩ := one_each out
  have hlen : ys.length ≤ sizeLine := by
    rw [y2.length, (isort_perm ds).length_eq, ← len]
    exact lz
  obtain ⟨ep, he⟩ := PyProof.Rows.sortedAll_at s.heap its (PySem.W.sortVals (dataKind (PySem.W.sortingHeap (PySem.W.copyHeap s.heap its) (s.heap.objs.size + 1) its) (ds.map D.py)) false its its).toArray
  exact ⟨.ref _, upd H (s.heap.objs.size + 1) (.lst ys), I.laid (t' := s.toks) (fun _ _ => PyProof.Rows.sortedAll_old) (Nat.le_succ _) ⟨hlen, _, ep, y1, he⟩, rfl, q _ _ (I.hok.fresh (Nat.le_succ _)) y2⟩
def gSorted : GC := fun env xs μ => match xs with
  | [x] => match sq env μ x with
    | some (.lst ds) => if sortable ds && decide (ds.length ≤ LIM) then .ok (.val (.lst (isort ds))) μ else .bad
    | _ => .bad
  | _ => .bad
theorem cn_sorted : CallN c W (rSortedD c.K) gSorted := by
  intro σ H G env μ vs xs Q R d q
  unfold gSorted at q
  split at q
  · rename_i x
    split at q
    · rename_i ds es
      split at q
      · rename_i hs
        simp only [Bool.and_eq_true, decide_eq_true_eq] at hs
        cases d with
        | cons d1 d2 =>
          cases d2
          obtain ⟨a, ws, rfl, h1, h2⟩ := sq_lst R d1 es
          refine ⟨a, ws, ds, G, c.L, rfl, h1, R.sub, h2, sortable_ok hs.1, fun p out hp ho => ?_⟩
          exact newLst (H0 := H) R ho q p hp
      · exact q.elim
    · exact q.elim
  · exact q.elim
theorem dn_sorted {e : Expr} {fa : FE} {p pos : Pos} (hu : X.A.units + 64 < cLine) (hm : X.mg "sorted" = none) (ha : DE X c W e fa) (hgl : Gl X "sorted" := by rfl) (hk : X.K = c.K := by rfl) (hs : starEach [e] X.env = (false, eval e X.env) :: starEach [] X.env := by rfl) : DN X c W (.Call (.Name "sorted" p) [e] [] pos) (fCall gSorted (fConsr fa fNilr)) :=
  dn_blt (cr_sortedD (X := X) hu) (hk ▸ cn_sorted) hgl hm (by decide +kernel) (dr_cons ha dr_nil hs) (by decide) (by decide) hs
end
end Q

set_option Elab.async false
set_option linter.all false
set_option maxRecDepth 100000
set_option maxHeartbeats 4000000
/-! QV: the law's end. -/
namespace Q
open PySem PySem.Spec PyProof.Rows L2
/-- what law(script) promises, where its function says True -/
def spLaw (K : PySem.W.Frag) (run : RunF) : Sp := fun vs H Q _ => ∃ (a : Addr) (ns : List Int), vs = [.ref a] ∧ SqL K H a (ns.map V.int) ∧ run [.frz (ns.map D.int)] [] = .ok (.val (.bl true)) [] ∧ ∀ H', Q (.bl true) H'
theorem ints_dats {K : PySem.W.Frag} {G : Hp} {L : List Addr} : ∀ ns : List Int, Dats K G L (ns.map V.int) (ns.map D.int)
  | [] => .nil
  | i :: ns => .cons (.int i) (ints_dats ns)
theorem spLaw_imp {K : PySem.W.Frag} {C : Nat → Addr} {run : RunF} (vs : List V) (H : Hp) (Q : VK) (E : XK) (h : spLaw K run vs H Q E) : spD K C 1 run vs H Q E := by
  obtain ⟨a, ns, rfl, hs, hr, q⟩ := h
  refine ⟨rfl, H, [], [.frz (ns.map D.int)], [], ⟨Sub.refl, List.nodup_nil, rfl, fun n b ds h1 _ => by simp at h1, fun _ _ h _ => h, Sub.refl, fun _ _ h => .inl h⟩, .cons (.frz hs (ints_dats ns)) .nil, ?_⟩
  rw [hr]
  intro v H' G' _ m
  have m : Dat K G' [] v (.bl true) := m
  cases m
  exact q H'
theorem law_fn {P : Program} {w : World} {K : PySem.W.Frag} {mg : Str → Option Value} {C : Nat → Addr} {k : Nat} {x y : Str} {st : Stmt} {run : RunF} {f : Addr} {fd : FuncData} {oc : Value} {od : Option Addr} {osl : Array (Option Value)} (H : ∀ base, Cal P w K mg base C k x st [y] 1 run) (l : K.lookup f = some ⟨oc, od, .func fd, osl⟩) (hm : mg x = some (.ref f)) (hb : ∀ (s : Shared) (v : Value), BindsTo s fd ⟨[v], []⟩ [(y, v)]) :
    ∃ fd : FuncData, (∀ (s : Shared) (v : Value), BindsTo s fd ⟨[v], []⟩ [(y, v)]) ∧ ∀ base : Heap, K.In base → base.Ns mainGlobals mg → FnOk P w K mg base (L2.CX P w) k f fd [y] (spLaw K run) := by
  refine ⟨fd, hb, fun base _ _ => ?_⟩
  obtain ⟨f', fd', F, G, hm', _, _⟩ := (H base).ex
  rw [hm] at hm'
  injection hm' with e
  injection e with e
  subst e
  obtain ⟨oc', od', kV, dc, pm, an, cdv, ct, osl', e1, lk, _⟩ := F.ex
  rw [l] at lk
  injection lk with lk
  injection lk with _ _ lk _
  injection lk with lk
  subst lk
  exact G.imp fun vs H Q E h => spLaw_imp vs H Q E h
/-- an error of the class at S is what «except S» names -/
theorem exm_own {K : PySem.W.Frag} {S : Addr} (h1 : PySem.W.subIn K (.ref S) (.type "BaseException") = some true) (h2 : PySem.W.isClsIn K S = true) (h3 : PySem.W.typeIn K (.ref S) = some (.type "type")) (h4 : PySem.W.subIn K (.ref S) (.ref S) = some true) :
    PySem.W.exmOne K (.ref S) (.ref S) = some true := by
  have a1 : (PySem.W.subIn K (.ref S) (.type "BaseException") == some true) = true := by rw [h1] <;> rfl
  have a2 : ((PySem.W.clsIn K S).isSome && PySem.W.typeIn K (.ref S) == some (.type "type")) = true := by
    have q : (PySem.W.clsIn K S).isSome = true := h2
    rw [q, h3] <;> rfl
  show (if (PySem.W.subIn K (.ref S) (.type "BaseException") == some true) = true then (if ((PySem.W.clsIn K S).isSome && PySem.W.typeIn K (.ref S) == some (.type "type")) = true then PySem.W.subIn K (.ref S) (.ref S) else none) else none) = some true
  rw [if_pos a1, if_pos a2]
  exact h4
theorem walkQ {l : PySem.W.OpenLaw} {q : Program} {loose : List Str} {XP : (Str → Option Value) → Heap → Prop} {YP : World → Heap → Prop} {d : DefRec} {K : Params → PySem.W.Frag} {k : Nat} {y : Str} {run : RunF} (hn : l.most = some 63) (hdf : d.params.defaults = []) (hr : Room k callerA)
    (hY : ∀ (w : World) (h : Heap), YP w h → (K w.params).In h)
    (F : ∀ (w : World) (mg : Str → Option Value) (fa : Addr) (h : Heap), (K w.params).In h → h.Ns mainGlobals mg → mg d.name = some (.ref fa) →
      ∃ fd : FuncData, (∀ (s : Shared) (u : Value), BindsTo s fd ⟨[u], []⟩ [(y, u)]) ∧ ∀ base : Heap, (K w.params).In base → base.Ns mainGlobals mg → FnOk l.prog w (K w.params) mg base (L2.CX l.prog w) k fa fd [y] (spLaw (K w.params) run))
    (T : ∀ ns : List Int, ns.length ≤ 63 → (∀ z ∈ ns, Builtin.Int.intBits z ≤ 1048576) → run [.frz (ns.map D.int)] [] = .ok (.val (.bl true)) []) :
    PySem.W.WalkO q loose XP YP l.row.toRowW d [] (fun f vs => PySem.call f vs) :=
  L2.walk_ofB (n := 63) (k := k) (x := y) (CX := fun w => L2.CX l.prog w) (sp := fun w => spLaw (K w.params) run) hn (by decide) hdf hr hY F (fun _ _ a ns hl hb _ hS => ⟨a, ns, rfl, hS, T ns hl hb, fun _ => rfl⟩) fun w H s e s' h => by
    obtain ⟨_, _, _, _, _, _, _, _, _, _, _, _, z⟩ := h
    exact z
end Q

set_option Elab.async false
set_option linter.all false
set_option maxRecDepth 100000
set_option maxHeartbeats 4000000
/-! SA: sets of nested tuples (texts, ints in them): the small questions. -/
namespace Q
open PySem PyProof.Rows L2
section
variable {P : Program} {w : World} {A : Around} {E : Value → Shared → Prop}
/-- a value is told (not) to be of a class statement, level by level -/
def NoCls (P : Program) (w : World) (n : Nat) (s : Shared) (v : Value) : Prop := ∀ (A : Around) (E : Value → Shared → Prop) (Q : Bool → Shared → Prop), Q false s → wpAny (model P w) A (ofAClassStatement n v) Q E s
/-- hashed by its value or not: it ends -/
def ByVal (P : Program) (w : World) (n : Nat) (s : Shared) (v : Value) : Prop := ∀ (A : Around) (E : Value → Shared → Prop) (Q : Bool → Shared → Prop), (∀ b, Q b s) → wpAny (model P w) A (hashByValue n v) Q E s
theorem NoCls.flat {n : Nat} {s : Shared} {v : Value} (h : ofAClassStatement n v = pure false) : NoCls P w n s v := fun A E Q q => by rw [h]; exact wpAny_pure q
theorem ByVal.flat {n : Nat} {s : Shared} {v : Value} {b : Bool} (h : hashByValue n v = pure b) : ByVal P w n s v := fun A E Q q => by rw [h]; exact wpAny_pure (q b)
theorem NoCls.tup {n m : Nat} {s : Shared} {a : Addr} {o : Obj} {vs : Array Value} (ho : s.heap.get? a = some o) (hc : o.cls = .type "tuple") (hd : o.data = .seq vs m) (hv : ∀ v ∈ vs.toList, NoCls P w n s v) : NoCls P w (n + 1) s (.ref a) := fun A E Q q => by
  unfold ofAClassStatement
  have te : (("tuple" : String) == "tuple") = true := by decide
  refine wpAny_bind (wpAny_typeOf (T := "tuple") ⟨o, ho, hc⟩ ?_); dsimp only
  simp only [te, if_true, Bool.not_true, Bool.false_eq_true, if_false]
  try refine wpAny_bind (wpAny_pure ?_); try simp only [Bool.not_true, Bool.false_eq_true, if_false]
  show wpAny _ _ (seqItems? (.ref a) >>= _) _ _ s
  refine wpAny_bind (wpAny_seqItems ho hd ?_); dsimp only; refine wpAny_bind ?_
  show wpAny _ _ (forIn vs _ _) _ _ s
  rw [← Array.forIn_toList]
  refine wpAny_forIn_list _ (fun rest r s1 => s1 = s ∧ r.1 = none ∧ ∀ v ∈ rest, NoCls P w n s v) _ (fun v rest r s1 ⟨e1, e2, al⟩ => ?_) (fun r s1 ⟨e1, e2, _⟩ => ?_) _ _ ⟨rfl, rfl, hv⟩
  · subst e1
    refine wpAny_bind (al v List.mem_cons_self _ _ _ ?_); simp only [Bool.false_eq_true, if_false]
    exact wpAny_pure ⟨rfl, rfl, fun u hu => al u (List.mem_cons_of_mem _ hu)⟩
  · subst e1
    obtain ⟨r1, r2⟩ := r
    cases (show r1 = none from e2)
    exact wpAny_pure q
theorem ByVal.tup {n m : Nat} {s : Shared} {a : Addr} {o : Obj} {vs : Array Value} (ho : s.heap.get? a = some o) (hc : o.cls = .type "tuple") (hd : o.data = .seq vs m) (hv : ∀ v ∈ vs.toList, ByVal P w n s v) : ByVal P w (n + 1) s (.ref a) := fun A E Q q => by
  unfold hashByValue
  refine wpAny_bind (wpAny_specialOf (T := "tuple") ⟨o, ho, hc⟩ F.slot_tuple_hash.lookup ?_)
  show wpAny _ _ (seqItems? (.ref a) >>= _) _ _ s
  refine wpAny_bind (wpAny_seqItems ho hd ?_); refine wpAny_bind ?_
  show wpAny _ _ (forIn vs _ _) _ _ s
  rw [← Array.forIn_toList]
  refine wpAny_forIn_list _ (fun rest r s1 => s1 = s ∧ r.1 = none ∧ ∀ v ∈ rest, ByVal P w n s v) _ (fun v rest r s1 ⟨e1, e2, al⟩ => ?_) (fun r s1 ⟨e1, e2, _⟩ => ?_) _ _ ⟨rfl, rfl, hv⟩
  · subst e1
    refine wpAny_bind (al v List.mem_cons_self _ _ _ fun b => ?_)
    cases b with
    | true => simp only [Bool.not_true, Bool.false_eq_true, if_false]; exact wpAny_pure ⟨rfl, rfl, fun u hu => al u (List.mem_cons_of_mem _ hu)⟩
    | false => simp only [Bool.not_false, if_true]; exact wpAny_pure (wpAny_pure (q false))
  · subst e1
    obtain ⟨r1, r2⟩ := r
    cases (show r1 = none from e2)
    exact wpAny_pure (q true)
mutual
theorem noCls_key : ∀ (k : NestedKey) (v : Value) (n : Nat) (s : Shared), NestedIs s.heap k v → k.depth ≤ n → NoCls P w n s v
  | .none, _, n, s, x, _ => by cases x; exact .flat (by cases n <;> rfl)
  | .num i, _, n, s, x, _ => by cases x <;> exact .flat (by cases n <;> rfl)
  | .text y, _, n, s, x, _ => by cases x; exact .flat (by cases n <;> rfl)
  | .tup ks, _, n, s, x, hn => by
    cases x with
    | tup hg hc hd hk =>
      obtain ⟨j, rfl⟩ : ∃ j, n = j + 1 := ⟨n - 1, by simp only [NestedKey.depth] at hn; omega⟩
      exact .tup hg hc hd (noCls_keys ks _ j s hk (by simp only [NestedKey.depth] at hn; omega))
theorem noCls_keys : ∀ (ks : List NestedKey) (vs : List Value) (n : Nat) (s : Shared), NestedAll s.heap ks vs → NestedKey.depthAll ks ≤ n → ∀ v ∈ vs, NoCls P w n s v
  | [], _, n, s, x, _, v, hv => by cases x; cases hv
  | k :: ks, _, n, s, x, hn, v, hv => by
    cases x with
    | cons x1 x2 =>
      simp only [NestedKey.depthAll] at hn
      rcases List.mem_cons.mp hv with e | hv
      · exact e ▸ noCls_key k _ n s x1 (by omega)
      · exact noCls_keys ks _ n s x2 (by omega) v hv
end
mutual
theorem byVal_key : ∀ (k : NestedKey) (v : Value) (n : Nat) (s : Shared), NestedIs s.heap k v → ByVal P w n s v
  | .none, _, n, s, x => by cases x; exact .flat (b := true) (by cases n <;> rfl)
  | .num i, _, n, s, x => by cases x <;> exact .flat (b := true) (by cases n <;> rfl)
  | .text y, _, n, s, x => by cases x; exact .flat (b := false) (by cases n <;> rfl)
  | .tup ks, _, 0, s, x => by cases x; exact .flat (b := false) rfl
  | .tup ks, _, n + 1, s, x => by
    cases x with
    | tup hg hc hd hk => exact .tup hg hc hd (byVal_keys ks _ n s hk)
theorem byVal_keys : ∀ (ks : List NestedKey) (vs : List Value) (n : Nat) (s : Shared), NestedAll s.heap ks vs → ∀ v ∈ vs, ByVal P w n s v
  | [], _, n, s, x, v, hv => by cases x; cases hv
  | k :: ks, _, n, s, x, v, hv => by
    cases x with
    | cons x1 x2 =>
      rcases List.mem_cons.mp hv with e | hv
      · exact e ▸ byVal_key k _ n s x1
      · exact byVal_keys ks _ n s x2 v hv
end
/-- at a: a tuple that is the key k -/
structure Tk (h : Heap) (k : NestedKey) (a : Addr) : Prop where
  is : NestedIs h k (.ref a)
  dp : k.depth ≤ 8
theorem Tk.inj {h : Heap} {x y : NestedKey} {a : Addr} (hx : Tk h x a) (hy : Tk h y a) : x = y := NestedIs.inj _ _ _ hx.is hy.is
theorem Tk.keep {h h' : Heap} {k : NestedKey} {a : Addr} (x : Tk h k a) (hk : ∀ b o, h.get? b = some o → h'.get? b = some o) : Tk h' k a := ⟨x.is.at (fun b o _ _ e _ => hk b o e), x.dp⟩
/-- a key isn't changed where a set is -/
theorem Tk.same {h h' : Heap} {k : NestedKey} {a b : Addr} {o : Obj} {es : Array (Int × Value)} {ep : Nat} {t : SetTable} (x : Tk h k b) (ho : h.get? a = some o) (hd : o.data = .set es ep t) (hs : Heap.SameBut a h h') : Tk h' k b :=
  ⟨x.is.at fun c oc vs n e1 e2 => (hs.2 c fun z => by rw [z, ho] at e1; cases e1; rw [hd] at e2; cases e2).trans e1, x.dp⟩
theorem Tk.eq {s : Shared} {x y : NestedKey} {a b : Addr} {Q : Bool → Shared → Prop} (hu : A.units + 8 < cLine) (hx : Tk s.heap x a) (hy : Tk s.heap y b) (q : Q (decide (x = y)) s) : wpAny (model P w) A (eqBool (.ref a) (.ref b)) Q E s :=
  (nestedKind P w).eqBool hu ⟨hx.is, hx.dp⟩ ⟨hy.is, hy.dp⟩ q
theorem Tk.hash {s : Shared} {k : NestedKey} {a : Addr} {Q : Int → Shared → Prop} (hu : A.units + 8 < cLine) (hx : Tk s.heap k a) (q : Q (k.hash w) { s with toks := s.toks + k.draws }) : wpAny (model P w) A (pyHash (.ref a)) Q E s :=
  (nestedKind P w).pyHash hu ⟨hx.is, hx.dp⟩ q
/-- a search among such tuples shows nothing -/
theorem Tk.seen {s : Shared} {k : NestedKey} {b : Addr} {Q : Bool → Shared → Prop} (hk : Tk s.heap k b) {ys : List Value} (hy : ∀ y ∈ ys, ∃ j c, y = Value.ref c ∧ Tk s.heap j c) (q : Q false s) :
    wpAny (model P w) A (searchCouldBeSeen (.ref b) ys) Q E s := by
  unfold searchCouldBeSeen; refine wpAny_bind ?_
  refine wpAny_forIn_list _ (fun rest r s1 => s1 = s ∧ r.1 = none ∧ ∀ y ∈ rest, ∃ j c, y = Value.ref c ∧ Tk s.heap j c) _ (fun v rest r s1 ⟨e1, e2, al⟩ => ?_) (fun r s1 ⟨e1, e2, _⟩ => ?_) _ _ ⟨rfl, rfl, hy⟩
  · subst e1
    obtain ⟨j, c, rfl, hc⟩ := al v List.mem_cons_self
    have go : ∀ y ∈ rest, ∃ j c, y = Value.ref c ∧ Tk s1.heap j c := fun u hu => al u (List.mem_cons_of_mem _ hu)
    dsimp only
    by_cases hv : (b == c || (carriedByValue (.ref b) && carriedByValue (.ref c))) = true
    · exact wp_if_pos hv (wpAny_pure ⟨rfl, rfl, go⟩)
    · refine wp_if_neg hv (wpAny_bind ((nestedKind P w).quiet ⟨hk.is, hk.dp⟩ ?_)); simp only [Bool.not_true, Bool.false_eq_true, if_false]
      refine wpAny_bind ((nestedKind P w).quiet ⟨hc.is, hc.dp⟩ ?_); simp only [Bool.not_true, Bool.false_eq_true, if_false]
      refine wpAny_bind (noCls_key k _ 8 s1 hk.is hk.dp _ _ _ ?_); simp only [Bool.false_eq_true, if_false]
      refine wpAny_bind (noCls_key j _ 8 s1 hc.is hc.dp _ _ _ ?_); simp only [Bool.false_eq_true, if_false]
      exact wpAny_pure ⟨rfl, rfl, go⟩
  · subst e1
    obtain ⟨r1, r2⟩ := r
    cases (show r1 = none from e2)
    exact wpAny_pure q
end
end Q

set_option Elab.async false
set_option linter.all false
set_option maxRecDepth 100000
set_option maxHeartbeats 4000000
/-! SB: sets of nested tuples: the search. -/
namespace Q
open PySem PyProof.Rows L2
/-- a set's row -/
def rowN (w : World) (p : Addr × NestedKey) : Int × Value := (p.2.hash w, .ref p.1)
def hsN (w : World) (L : List (Addr × NestedKey)) : List Int := L.map fun p => p.2.hash w
/-- at a: the set of the keys of L, laid by the table t -/
structure SetN (w : World) (h : Heap) (a : Addr) (L : List (Addr × NestedKey)) (es : Array (Int × Value)) (ep : Nat) (t : SetTable) : Prop where
  ob : ∃ o, h.get? a = some o ∧ o.ExactSet ∧ o.data = .set es ep t
  row : es.toList = L.map (rowN w)
  tab : TabOk t (hsN w L)
  nd : (L.map (·.2)).Nodup
  key : ∀ p ∈ L, Tk h p.2 p.1
  led : w.params.followText "set-order" = true ∨ t.led = true
  room : L.length * 5 < t.mask * 3
  few : L.length < 64
theorem hsN_len (w : World) (L : List (Addr × NestedKey)) : (hsN w L).length = L.length := List.length_map ..
theorem row_len {w : World} {L : List (Addr × NestedKey)} {es : Array (Int × Value)} (r : es.toList = L.map (rowN w)) : es.size = L.length := by
  rw [← Array.length_toList, r, List.length_map]
theorem row_at {w : World} {L : List (Addr × NestedKey)} {es : Array (Int × Value)} (r : es.toList = L.map (rowN w)) {i : Nat} {p : Addr × NestedKey} (h : L[i]? = some p) : es[i]? = some (p.2.hash w, .ref p.1) := by
  rw [← Array.getElem?_toList, r, List.getElem?_map, h]; rfl
theorem tab_fits {t : SetTable} {hs : List Int} {n : Nat} (T : TabOk t hs) (e : n = hs.length) (l : n ≤ t.mask) : t.fits n = true := by
  have z := T.sz
  have d : t.dummies.size = 0 := by rw [T.dm]; rfl
  simp only [SetTable.fits, SetTable.fill, Bool.and_eq_true, beq_iff_eq, decide_eq_true_eq, d]
  exact ⟨by omega, by omega⟩
section
variable {P : Program} {w : World} {A : Around} {E : Value → Shared → Prop} {s : Shared} {a : Addr} {L : List (Addr × NestedKey)} {es : Array (Int × Value)} {ep : Nat} {t : SetTable}
theorem SetN.size {h : Heap} (R : SetN w h a L es ep t) : es.size = L.length := row_len R.row
theorem SetN.fits {h : Heap} (R : SetN w h a L es ep t) : t.fits es.size = true :=
  tab_fits R.tab (by rw [hsN_len]; exact R.size) (by have := R.size; have := R.room; omega)
/-- the probe's c-th state, its slot -/
abbrev prb (t : SetTable) (h : Int) (c : Nat) : SetTable.Probe := nth t.mask (runAt t.mask (SetTable.bits h % (t.mask + 1)) (SetTable.bits h)) c
theorem prb_dummy (t : SetTable) (h : Int) (c : Nat) : (prb t h c).dummy = none := by
  have k : ∀ (n : Nat) (p : SetTable.Probe), p.dummy = none → (nth t.mask p n).dummy = none := fun n => by
    induction n with
    | zero => exact fun _ e => e
    | succ n ih => exact fun p e => ih (adv t.mask p) (by unfold adv; split <;> exact e)
  exact k c _ rfl
theorem prb_add (t : SetTable) (h : Int) (c q : Nat) : nth t.mask (prb t h c) q = prb t h (c + q) := (nth_add t.mask c _ q).symm
theorem prb_j (t : SetTable) (h : Int) (c q : Nat) : (nth t.mask (prb t h c) q).j = way t.mask h (c + q) := congrArg SetTable.Probe.j (prb_add t h c q)
/-- what is asked of a search -/
structure Seek (w : World) (s : Shared) (L : List (Addr × NestedKey)) (t : SetTable) (x : Addr) (k : NestedKey) (K : Nat) (Q : SetFound → Shared → Prop) : Prop where
  kx : Tk s.heap k x
  lt : K < 10 * SetTable.turns t.mask
  at' : way t.mask (k.hash w) K ∉ t.place.toList
  ahead : ∀ c, c < K → way t.mask (k.hash w) c ∈ t.place.toList
  yes : k ∈ L.map (·.2) → Q (.there none) s
  no : k ∉ L.map (·.2) → Q (.free (way t.mask (k.hash w) K) false) s
theorem hash_at {h : Heap} (R : SetN w h a L es ep t) {i : Nat} {p : Addr × NestedKey} (hp : L[i]? = some p) : (es[i]?.map (·.1)).getD 0 = p.2.hash w := by
  rw [row_at R.row hp]; rfl
theorem seek_from (R : SetN w s.heap a L es ep t) {x : Addr} {k : NestedKey} (hu : A.units + 8 < cLine) {K : Nat} {Q : SetFound → Shared → Prop} (Z : Seek w s L t x k K Q) :
    ∀ (f c : Nat) (stand : Option SetTable.Probe), stand.getD (t.probeStart (k.hash w)) = prb t (k.hash w) c → c ≤ K → K - c < f →
      (∀ (i : Nat) p, L[i]? = some p → p.2 = k → ∃ c', c ≤ c' ∧ c' < K ∧ t.place.toList[i]? = some (way t.mask (k.hash w) c')) →
      wpAny (model P w) A (setSearchFrom a (.ref x) (k.hash w) true f stand) Q E s
  | 0, c, stand, _, _, hf, _ => by omega
  | f + 1, c, stand, hst, hc, hf, hre => by
    obtain ⟨o, ho, hex, hd⟩ := R.ob
    have ng : ¬ t.gaveWay = true := by unfold SetTable.gaveWay; rw [mask_odd R.tab.mok]; decide
    rw [setSearchFrom_succ]
    refine wpAny_bind (wpAny_setState_of ho hd R.fits ?_); dsimp only
    refine wp_if_neg ng ?_
    try refine wpAny_bind (wpAny_pure ?_)
    have Kc : c + (K - c) = K := by omega
    rcases go_spec t R.tab.ris R.tab.dm (fun i => (es[i]?.map (·.1)).getD 0) (k.hash w) (10 * SetTable.turns t.mask) (K - c) (prb t (k.hash w) c) (prb_dummy _ _ _) (by have := Z.lt; omega)
      (fun q hq => by rw [prb_j]; exact Z.ahead (c + q) (by omega)) (by rw [prb_j, Kc]; exact Z.at') with ⟨q, i, hq, hi, hh, hno, hpr⟩ | ⟨hno, hpr⟩
    · rw [prb_j] at hi hpr; rw [prb_add] at hpr
      have pr : t.probe (fun i => (es[i]?.map (·.1)).getD 0) (k.hash w) (stand.getD (t.probeStart (k.hash w))) = some (.candidate (way t.mask (k.hash w) (c + q)) i (prb t (k.hash w) (c + (q + 1)))) := by rw [hst]; exact hpr
      rw [pr]; dsimp only
      have il : i < L.length := by
        have h1 := (List.getElem?_eq_some_iff.mp hi).1
        have h2 := R.tab.sz
        rw [hsN_len] at h2; rw [Array.length_toList] at h1; omega
      obtain ⟨p, hp⟩ : ∃ p, L[i]? = some p := ⟨_, List.getElem?_eq_getElem il⟩
      have pm := List.mem_of_getElem? hp
      have live : t.slot (way t.mask (k.hash w) (c + q)) = .live i := slot_live R.tab.ris hi
      have rest : wpAny (model P w) A (searchRest a (.ref x) (k.hash w) true f es t (way t.mask (k.hash w) (c + q)) i (prb t (k.hash w) (c + (q + 1)))) Q E s := by
        unfold searchRest
        rw [row_at R.row hp]; dsimp only
        refine wpAny_bind (wpAny_holding (Tk.eq hu (R.key p pm) Z.kx ?_))
        refine wpAny_bind (wpAny_setState_of ho hd R.fits ?_); dsimp only
        by_cases hkk : p.2 = k
        · exact wp_if_pos (by simp [hkk]) (wpAny_pure (Z.yes (List.mem_map.mpr ⟨p, pm, hkk⟩)))
        · refine wp_if_neg (by simp [hkk]) ?_
          try refine wpAny_bind (wpAny_pure ?_)
          rw [sameMem]; dsimp only
          simp only [if_true, live, row_at R.row hp]
          refine wpAny_bind (wpAny_isSame_ref_self (wpAny_bind (wpAny_pure ?_))); simp only [if_true]
          refine wp_if_neg (by simp [hkk]) (seek_from R hu Z f (c + (q + 1)) _ rfl (by omega) (by omega) fun i0 p0 h0 hk0 => ?_)
          obtain ⟨c', a1, a2, a3⟩ := hre i0 p0 h0 hk0
          refine ⟨c', ?_, a2, a3⟩
          rcases Nat.lt_trichotomy c' (c + q) with z | z | z
          · have e : c + (c' - c) = c' := by omega
            exact absurd ((hash_at R h0).trans (congrArg (NestedKey.hash w) hk0)) (hno (c' - c) i0 (by omega) (by rw [prb_j, e]; exact a3))
          · rw [z] at a3
            have s0 := slot_live R.tab.ris a3
            rw [live] at s0; injection s0 with s0
            rw [← s0, hp] at h0
            exact absurd ((congrArg Prod.snd (Option.some.inj h0)).trans hk0) hkk
          · omega
      by_cases hl : t.led = true
      · refine wp_if_neg (by simp [hl]) ?_
        try refine wpAny_bind (wpAny_pure ?_)
        exact rest
      · refine wp_if_pos (by simp [hl]) (wpAny_bind (Z.kx.seen (fun y hy => ?_) ?_))
        · obtain ⟨e, he, ee⟩ := List.mem_map.mp hy
          have he : e ∈ es ∧ e.1 = k.hash w := by simpa using he
          have he2 : e ∈ L.map (rowN w) := by rw [← R.row]; simpa using he.1
          obtain ⟨p2, hp2, e2⟩ := List.mem_map.mp he2
          exact ⟨p2.2, p2.1, by rw [← ee, ← e2]; rfl, R.key p2 hp2⟩
        · refine wp_if_neg (by decide) ?_
          try refine wpAny_bind (wpAny_pure ?_)
          exact rest
    · rw [prb_j, Kc] at hpr
      have pr : t.probe (fun i => (es[i]?.map (·.1)).getD 0) (k.hash w) (stand.getD (t.probeStart (k.hash w))) = some (.empty (way t.mask (k.hash w) K) none) := by rw [hst]; exact hpr
      rw [pr]; dsimp only
      refine wpAny_pure (Z.no fun hm => ?_)
      obtain ⟨p0, h0, hk0⟩ := List.mem_map.mp hm
      obtain ⟨i0, hi0, e0⟩ := List.getElem_of_mem h0
      have h00 : L[i0]? = some p0 := by rw [List.getElem?_eq_getElem hi0, e0]
      obtain ⟨c', a1, a2, a3⟩ := hre i0 p0 h00 hk0
      have e : c + (c' - c) = c' := by omega
      exact hno (c' - c) i0 (by omega) (by rw [prb_j, e]; exact a3) ((hash_at R h00).trans (congrArg (NestedKey.hash w) hk0))
/-- the search, as adding asks for it -/
theorem seek (R : SetN w s.heap a L es ep t) {x : Addr} {k : NestedKey} (kx : Tk s.heap k x) (hu : A.units + 8 < cLine) {Q : SetFound → Shared → Prop} (yes : k ∈ L.map (·.2) → Q (.there none) s)
    (no : ∀ K, k ∉ L.map (·.2) → way t.mask (k.hash w) K ∉ t.place.toList → (∀ c, c < K → way t.mask (k.hash w) c ∈ t.place.toList) → Q (.free (way t.mask (k.hash w) K) false) s) :
    wpAny (model P w) A (setSearch a (.ref x) (k.hash w) true) Q E s := by
  have hroom := R.room
  obtain ⟨K, h1, h2, h3⟩ := R.tab.first (by rw [hsN_len]; omega) (k.hash w)
  have big : 10 * SetTable.turns t.mask ≤ 1420 := by
    unfold SetTable.turns
    rcases R.tab.mok with e | e | e <;> omega
  unfold setSearch
  refine seek_from R hu ⟨kx, h1, h2, h3, yes, fun hn => no K hn h2 h3⟩ 100000 0 none rfl (Nat.zero_le _) (by omega) fun i p hp hk => ?_
  have hi : (hsN w L)[i]? = some (k.hash w) := by rw [hsN, List.getElem?_map, hp, ← hk]; rfl
  have il : i < t.place.toList.length := by
    have q := (List.getElem?_eq_some_iff.mp hp).1
    have z := R.tab.sz
    rw [hsN_len] at z; rw [Array.length_toList]; omega
  obtain ⟨c, hc, e⟩ := R.tab.before h2 hi (List.getElem?_eq_getElem il)
  exact ⟨c, Nat.zero_le _, hc, by rw [List.getElem?_eq_getElem il, e]⟩
end
end Q

set_option Elab.async false
set_option linter.all false
set_option maxRecDepth 100000
set_option maxHeartbeats 4000000
/-! SC: sets of nested tuples: adding. -/
namespace Q
open PySem PyProof.Rows L2
theorem pick_all {α : Type} (L : List α) : (List.range L.length).filterMap (fun i => L[i]?) = L := by
  have go : ∀ n, n ≤ L.length → (List.range n).filterMap (fun i => L[i]?) = L.take n := fun n => by
    induction n with
    | zero => exact fun _ => rfl
    | succ n ih =>
      intro hn
      rw [List.range_succ, List.filterMap_append, ih (by omega), List.take_succ, List.getElem?_eq_getElem (show n < L.length by omega), List.filterMap_cons_some (List.getElem?_eq_getElem (show n < L.length by omega))]
      rfl
  rw [go _ (Nat.le_refl _), List.take_length]
/-- rows in another order -/
theorem rows_by {w : World} (L : List (Addr × NestedKey)) (es : Array (Int × Value)) (order : Array Nat) (hr : es.toList = L.map (rowN w)) (hp : order.toList.Perm (List.range L.length)) :
    ∃ L2, (order.filterMap (es[·]?)).toList = L2.map (rowN w) ∧ L2.Perm L ∧ hsN w L2 = order.toList.map fun i => (es.map (·.1)).getD i 0 := by
  have lt : ∀ i ∈ order.toList, i < L.length := fun i hi => List.mem_range.mp (hp.mem_iff.mp hi)
  have go : ∀ l : List Nat, (∀ i ∈ l, i < L.length) → l.filterMap (fun i => es[i]?) = (l.filterMap fun i => L[i]?).map (rowN w) ∧ hsN w (l.filterMap fun i => L[i]?) = l.map fun i => (es.map (·.1)).getD i 0 := fun l => by
    induction l with
    | nil => exact fun _ => ⟨rfl, rfl⟩
    | cons i l ih =>
      intro hl
      have hi := List.getElem?_eq_getElem (hl i List.mem_cons_self)
      have he := row_at hr hi
      obtain ⟨h1, h2⟩ := ih fun j hj => hl j (List.mem_cons_of_mem _ hj)
      have e4 : (es.map (·.1)).getD i 0 = (L[i]'(hl i List.mem_cons_self)).2.hash w := by
        simp only [Array.getD_eq_getD_getElem?, Array.getElem?_map, he, Option.map_some, Option.getD_some]
      constructor
      · rw [List.filterMap_cons_some he, List.filterMap_cons_some hi, h1]; rfl
      · rw [List.filterMap_cons_some hi, List.map_cons, e4, ← h2]; rfl
  obtain ⟨h1, h2⟩ := go order.toList lt
  refine ⟨order.toList.filterMap fun i => L[i]?, by rw [Array.toList_filterMap]; exact h1, ?_, h2⟩
  have := hp.filterMap fun i => L[i]?
  rwa [pick_all] at this
theorem put_in {α : Type} (L : List α) (p : Nat) (x : α) : (L.take p ++ x :: L.drop p).Perm (x :: L) := by
  have h : (L.take p ++ x :: L.drop p).Perm (x :: (L.take p ++ L.drop p)) := List.perm_middle
  rwa [List.take_append_drop] at h
section
variable {P : Program} {w : World} {A : Around} {E : Value → Shared → Prop} {s : Shared} {a : Addr} {L : List (Addr × NestedKey)} {es : Array (Int × Value)} {ep : Nat} {t : SetTable}
/-- the table laid anew, larger -/
theorem relayN {o : Obj} (ho : s.heap.get? a = some o) (hex : o.ExactSet) (hd : o.data = .set es ep t) (row : es.toList = L.map (rowN w)) (T0 : TabOk t (hsN w L)) (hfl : L.length ≤ t.mask)
    (nd : (L.map (·.2)).Nodup) (key : ∀ p ∈ L, Tk s.heap p.2 p.1) (ld : w.params.followText "set-order" = true ∨ t.led = true) (few : L.length < 64) {wanted M : Nat}
    (hw : SetTable.sizeAbove wanted - 1 = M) (hM : MaskOk M) (hw2 : SetTable.sizeAbove wanted ≤ 128) (hn : L.length * 5 < M * 3) {Q : Unit → Shared → Prop}
    (q : ∀ h' L' es' ep' t', Heap.SameBut a s.heap h' → SetN w h' a L' es' ep' t' → L'.Perm L → Q () { s with heap := h' }) : wpAny (model P w) A (setRelay a wanted) Q E s := by
  have hz := row_len row
  obtain ⟨t', order, e, hp, T, em, el, ep', ed⟩ := relaid_ok t (hs := es.map (·.1)) (wanted := wanted) hw hM (by rw [Array.size_map, hz]; omega)
  rw [Array.size_map, hz] at hp
  obtain ⟨L2, r1, r2, r3⟩ := rows_by L es order row hp
  rw [← r3] at T
  have hs2 : (order.filterMap (es[·]?)).size = es.size := by rw [row_len r1, r2.length_eq, hz]
  rw [setRelay_eq]
  refine wpAny_bind (wpAny_setState_of ho hd (tab_fits T0 (by rw [hsN_len, hz]) (by omega)) ?_); dsimp only
  refine wp_if_neg (by rw [sizeLine_eq]; omega) ?_
  try refine wpAny_bind (wpAny_pure ?_)
  rw [e]; dsimp only
  refine wpAny_bind (wp_if_neg (by rw [hs2]; simp) ?_)
  try refine wpAny_bind (wpAny_pure ?_)
  refine wpAny_pure ?_; dsimp only
  refine wpAny_storeSet_of ho hd ?_ (by rw [hs2, hz, sizeLine_eq]; omega)
  have sb : Heap.SameBut a s.heap (s.heap.update a (Obj.putSet (order.filterMap (es[·]?)) t')) := Heap.SameBut.update ..
  refine q _ L2 (order.filterMap (es[·]?)) (ep + 1) t' sb ⟨⟨_, store_at ho hd, ⟨hex.1, hex.2.1, hex.2.2⟩, rfl⟩, r1, T, (r2.map (·.2)).nodup_iff.mpr nd, fun p hpm => (key p (r2.mem_iff.mp hpm)).same ho hd sb, by rw [el]; exact ld, by rw [r2.length_eq, em]; exact hn, by rw [r2.length_eq]; exact few⟩ r2
/-- one more -/
theorem addN (R : SetN w s.heap a L es ep t) {x : Addr} {k : NestedKey} (kx : Tk s.heap k x) (hu : A.units + 8 < cLine) (hfew : L.length + 1 < 64) {Q : Bool → Shared → Prop}
    (q : ∀ b h' L' es' ep' t', Heap.SameBut a s.heap h' → SetN w h' a L' es' ep' t' → (k ∈ L.map (·.2) → L' = L) → (k ∉ L.map (·.2) → L'.Perm ((x, k) :: L)) → Q b { s with heap := h' }) :
    wpAny (model P w) A (setAddHashed a (.ref x) (k.hash w)) Q E s := by
  obtain ⟨o, ho, hex, hd⟩ := R.ob
  have hz := R.size
  have hroom := R.room
  unfold setAddHashed
  refine wpAny_holding ?_
  rw [show (100000 : Nat) = 99999 + 1 from rfl, setAddHashedIn_succ]
  refine wpAny_bind (wpAny_setState_of ho hd R.fits ?_); dsimp only
  refine wp_if_neg (by simp [byScan, Value.scannable]) ?_
  try refine wpAny_bind (wpAny_pure ?_)
  refine wpAny_bind (seek R kx hu (fun hm => wpAny_pure (q false s.heap L es ep t (Heap.SameBut.refl a s.heap) R (fun _ => rfl) fun z => absurd hm z)) fun K hm hK hb => ?_)
  dsimp only
  refine wpAny_bind (wpAny_setState_of ho hd R.fits ?_); dsimp only
  obtain ⟨q1, q2, q3, q4, q5, q6, q7, q8, q9⟩ := R.tab.put hK hb
  generalize hpt : t.put (way t.mask (k.hash w) K) = pt at q1 q3 q4 q5 q6 q7 q8 q9 ⊢
  obtain ⟨t1, p⟩ := pt
  dsimp only at q1 q3 q4 q5 q6 q7 q8 q9 ⊢
  subst q1
  -- the table by its value or not
  have cont : ∀ (t2 : SetTable), t2.place = t1.place → t2.dummies = t1.dummies → t2.mask = t1.mask → t2.led = t1.led → wpAny (model P w) A (do
      storeSet a (SetTable.insertAt es (SetTable.below t.place (way t.mask (k.hash w) K)) (k.hash w, .ref x)) t2
      if !false && t2.tooFull then setRelay a (SetTable.grown (es.size + 1))
      return true) Q E s := fun t2 f1 f2 f3 f4 => by
    have T2 : TabOk t2 (hsN w (L.take (SetTable.below t.place (way t.mask (k.hash w) K)) ++ (x, k) :: L.drop (SetTable.below t.place (way t.mask (k.hash w) K)))) := by
      have e : hsN w (L.take (SetTable.below t.place (way t.mask (k.hash w) K)) ++ (x, k) :: L.drop (SetTable.below t.place (way t.mask (k.hash w) K))) = (hsN w L).take (SetTable.below t.place (way t.mask (k.hash w) K)) ++ k.hash w :: (hsN w L).drop (SetTable.below t.place (way t.mask (k.hash w) K)) := by
        simp only [hsN, List.map_append, List.map_cons, List.map_take, List.map_drop]
      rw [e]
      exact ⟨by rw [f1]; exact q3.ris, by rw [f2]; exact q3.dm, by rw [f1]; exact q3.sz, by rw [f3]; exact q3.mok, by rw [f1, f3]; exact q3.bd, by rw [f1, f3]; exact q3.reach⟩
    have fl : t2.fill = L.length + 1 := by
      have : t2.fill = t1.fill := by unfold SetTable.fill; rw [f1, f2]
      rw [this, q9, hsN_len]
    have hin : (SetTable.insertAt es (SetTable.below t.place (way t.mask (k.hash w) K)) (k.hash w, .ref x)).toList = (L.take (SetTable.below t.place (way t.mask (k.hash w) K)) ++ (x, k) :: L.drop (SetTable.below t.place (way t.mask (k.hash w) K))).map (rowN w) := by
      rw [SetTable.toList_insertAt, R.row, List.map_append, List.map_cons, List.map_take, List.map_drop]; rfl
    generalize SetTable.below t.place (way t.mask (k.hash w) K) = p at T2 hin ⊢
    have pm := put_in L p (x, k)
    generalize L.take p ++ (x, k) :: L.drop p = L1 at pm T2 hin
    have len1 : L1.length = L.length + 1 := pm.length_eq
    have size1 := row_len hin
    have nd1 : (L1.map (·.2)).Nodup := (pm.map (·.2)).nodup_iff.mpr (List.nodup_cons.mpr ⟨hm, R.nd⟩)
    generalize SetTable.insertAt es p (k.hash w, .ref x) = es1 at hin size1 ⊢
    refine wpAny_bind (wpAny_storeSet_of ho hd ?_ (by rw [size1, len1, sizeLine_eq]; omega))
    have sb : Heap.SameBut a s.heap (s.heap.update a (Obj.putSet es1 t2)) := Heap.SameBut.update ..
    have ho1 := store_at (es' := es1) (t' := t2) ho hd
    generalize s.heap.update a (Obj.putSet es1 t2) = h1 at sb ho1 ⊢
    have key1 : ∀ p ∈ L1, Tk h1 p.2 p.1 := fun p hp => by
      rcases List.mem_cons.mp (pm.mem_iff.mp hp) with e | hp
      · rw [e]; exact kx.same ho hd sb
      · exact (R.key p hp).same ho hd sb
    have ld1 : w.params.followText "set-order" = true ∨ t2.led = true := by rw [f4, q5]; exact R.led
    have m1 : t2.mask = t.mask := f3.trans q4
    by_cases hf : t2.tooFull = true
    · have full : (L.length + 1) * 5 ≥ t.mask * 3 := by
        have h := hf
        unfold SetTable.tooFull at h
        rw [decide_eq_true_eq, fl, m1] at h
        exact h
      have two : (t.mask = 7 ∧ L.length = 4) ∨ (t.mask = 31 ∧ L.length = 18) := by
        rcases R.tab.mok with e | e | e
        · exact .inl ⟨e, by rw [e] at hroom full; omega⟩
        · exact .inr ⟨e, by rw [e] at hroom full; omega⟩
        · rw [e] at full; omega
      have go : ∀ M, SetTable.sizeAbove (SetTable.grown (L.length + 1)) - 1 = M → MaskOk M → SetTable.sizeAbove (SetTable.grown (L.length + 1)) ≤ 128 → (L.length + 1) * 5 < M * 3 →
          wpAny (model P w) A (setRelay a (SetTable.grown (es.size + 1))) (fun _ s' => wpAny (model P w) A (pure true) Q E s') E { s with heap := h1 } := fun M g1 g2 g3 g4 => by
        rw [hz]
        refine relayN (s := { s with heap := h1 }) ho1 ⟨hex.1, hex.2.1, hex.2.2⟩ rfl hin T2 (by rw [len1, m1]; rcases two with ⟨e, e2⟩ | ⟨e, e2⟩ <;> omega) nd1 key1 ld1 (by omega) g1 g2 g3 (by rw [len1]; exact g4) fun h2 L2 es2 ep2 t2' sb2 R2 pm2 => ?_
        exact wpAny_pure (q true h2 L2 es2 ep2 t2' (sb.trans sb2) R2 (fun z => absurd z hm) fun _ => pm2.trans pm)
      have g : wpAny (model P w) A (setRelay a (SetTable.grown (es.size + 1))) (fun _ s' => wpAny (model P w) A (pure true) Q E s') E { s with heap := h1 } := by
        rcases two with ⟨_, e2⟩ | ⟨_, e2⟩
        · exact go 31 (by rw [e2, size_20]) (.inr (.inl rfl)) (by rw [e2, size_20]; decide) (by omega)
        · exact go 127 (by rw [e2, size_76]) (.inr (.inr rfl)) (by rw [e2, size_76]; decide) (by omega)
      first
        | exact wp_if_pos (by simp [hf]) (wpAny_bind g)
        | exact wpAny_bind (wp_if_pos (by simp [hf]) g)
    · have ok : Q true { s with heap := h1 } := q true h1 L1 es1 (ep + 1) t2 sb ⟨⟨_, ho1, ⟨hex.1, hex.2.1, hex.2.2⟩, rfl⟩, hin, T2, nd1, key1, ld1, by
          have h := hf
          unfold SetTable.tooFull at h
          rw [decide_eq_true_eq, fl] at h
          rw [len1]; omega, by omega⟩ (fun z => absurd z hm) fun _ => pm
      first
        | exact wp_if_neg (by simp [hf]) (wpAny_pure ok)
        | exact wpAny_bind (wp_if_neg (by simp [hf]) (wpAny_pure (wpAny_pure ok)))
  have by2 : ∀ (b : Bool), wpAny (model P w) A (do
      storeSet a (SetTable.insertAt es (SetTable.below t.place (way t.mask (k.hash w) K)) (k.hash w, .ref x)) (if b = true then t1 else { t1 with plain := false })
      if !false && (if b = true then t1 else { t1 with plain := false }).tooFull then setRelay a (SetTable.grown (es.size + 1))
      return true) Q E s := fun b => by
    cases b
    · exact cont { t1 with plain := false } rfl rfl rfl rfl
    · exact cont t1 rfl rfl rfl rfl
  by_cases hp : t1.plain = true
  · exact wp_if_pos hp (wpAny_bind (byVal_key k _ 8 s kx.is _ _ _ fun b => by2 b))
  · exact wp_if_neg hp (wpAny_bind (wpAny_pure (by2 true)))
end
end Q

set_option Elab.async false
set_option linter.all false
set_option maxRecDepth 100000
set_option maxHeartbeats 4000000
/-! SD: set(xs) of a list of nested tuples. -/
namespace Q
open PySem PySem.Spec PyProof.Rows L2
/-- what the set has of the first i -/
structure GotN (ks : List (Addr × NestedKey)) (i : Nat) (L : List (Addr × NestedKey)) : Prop where
  sub : ∀ p ∈ L, p ∈ ks.take i
  all : ∀ p ∈ ks.take i, p.2 ∈ L.map (·.2)
  len : L.length ≤ i
theorem take_one {α : Type} {l : List α} {i : Nat} {x : α} (h : l[i]? = some x) : l.take (i + 1) = l.take i ++ [x] := by
  rw [List.take_succ, h]; rfl
theorem GotN.next {ks L L' : List (Addr × NestedKey)} {i : Nat} {x : Addr × NestedKey} (g : GotN ks i L) (h : ks[i]? = some x) (c1 : x.2 ∈ L.map (·.2) → L' = L) (c2 : x.2 ∉ L.map (·.2) → L'.Perm (x :: L)) : GotN ks (i + 1) L' := by
  rcases Classical.em (x.2 ∈ L.map (·.2)) with c | c
  · rw [c1 c]
    refine ⟨fun p hp => ?_, fun p hp => ?_, by have := g.len; omega⟩
    · rw [take_one h]; exact List.mem_append_left _ (g.sub p hp)
    · rw [take_one h] at hp
      rcases List.mem_append.mp hp with z | z
      · exact g.all p z
      · exact (List.mem_singleton.mp z).symm ▸ c
  · have pm := c2 c
    refine ⟨fun p hp => ?_, fun p hp => ?_, by have := g.len; rw [pm.length_eq]; simp only [List.length_cons]; omega⟩
    · rw [take_one h]
      rcases List.mem_cons.mp (pm.mem_iff.mp hp) with e | z
      · exact e ▸ List.mem_append_right _ (List.mem_singleton.mpr rfl)
      · exact List.mem_append_left _ (g.sub p z)
    · rw [(pm.map (·.2)).mem_iff, List.map_cons]
      rw [take_one h] at hp
      rcases List.mem_append.mp hp with z | z
      · exact List.mem_cons_of_mem _ (g.all p z)
      · exact (List.mem_singleton.mp z).symm ▸ List.mem_cons_self
section
variable {P : Program} {w : World} {A : Around} {E : Value → Shared → Prop} {s : Shared}
theorem SetN.keep {h h' : Heap} {a : Addr} {L : List (Addr × NestedKey)} {es : Array (Int × Value)} {ep : Nat} {t : SetTable} (R : SetN w h a L es ep t) (ha : ∀ o, h.get? a = some o → h'.get? a = some o) (hk : ∀ p ∈ L, Tk h' p.2 p.1) : SetN w h' a L es ep t := by
  obtain ⟨o, ho, r⟩ := R.ob
  exact ⟨⟨o, ha o ho, r⟩, R.row, R.tab, R.nd, hk, R.led, R.room, R.few⟩
abbrev newSetO (w : World) : Obj := { cls := .type "set", dict := none, data := .set #[] 0 (.fresh 0 0 (!w.params.followText "set-order")) }
theorem SetN.new {h : Heap} {a : Addr} (ho : h.get? a = some (newSetO w)) : SetN w h a [] #[] 0 (.fresh 0 0 (!w.params.followText "set-order")) where
  ob := ⟨_, ho, ⟨rfl, rfl, rfl⟩, rfl⟩
  row := rfl
  tab := ⟨List.Pairwise.nil, rfl, rfl, .inl rfl, fun x hx => (by cases hx), fun i h j hi => (by simp [hsN] at hi)⟩
  nd := List.nodup_nil
  key := fun p hp => (by cases hp)
  led := by
    show _ ∨ (!w.params.followText "set-order") = true
    cases w.params.followText "set-order" <;> simp
  room := by show 0 * 5 < 7 * 3; decide
  few := by show 0 < 64; decide
/-- the loop that puts all in -/
theorem loopN {I : Addr} {fp wr : List Addr} {G : Array GenState → Array GenState → Prop} {n : Nat} {Pv : Nat → Value → Prop} {St : Nat → Shared → Prop} {R : Result → Shared → Prop}
    (W : WalksS P w A.in1 I fp wr G n Pv St) (S : Addr) (hSf : S ∉ fp) (ks : List (Addr × NestedKey)) (hn : n = ks.length) (hfew : ks.length < 64) (hval : ∀ i v, Pv i v → ∃ p, ks[i]? = some p ∧ v = .ref p.1)
    (h0 : Heap) (hk : ∀ p ∈ ks, Tk h0 p.2 p.1) (hS0 : h0.get? S = none) (hw0 : ∀ b ∈ wr, h0.get? b = none) (hu : A.in1.units + 8 < cLine) :
    ∀ (k i : Nat) (s : Shared), n - i = k → i ≤ n → St i s → (∀ b o, h0.get? b = some o → s.heap.get? b = some o) → (∃ L es ep t, SetN w s.heap S L es ep t ∧ GotN ks i L) →
      (∀ s' L es ep t, Moved (S :: wr) G s s' → SetN w s'.heap S L es ep t → GotN ks n L → (∀ b o, h0.get? b = some o → s'.heap.get? b = some o) → R (.ok (.ret .none)) s') →
      codeAny (model P w) A (.builtin "set.update.loop" ⟨[.ref S, .ref I], []⟩) R s := by
  have hSw : S ∉ wr := fun h => hSf (W.sub _ h)
  have up : ∀ b ∈ wr, b ∈ S :: wr := fun b hb => List.mem_cons_of_mem _ hb
  have kept : ∀ {s s' : Shared}, Moved wr G s s' → (∀ b o, h0.get? b = some o → s.heap.get? b = some o) → ∀ b o, h0.get? b = some o → s'.heap.get? b = some o := fun hm q b o e =>
    hm.heap b o (fun hb => by rw [hw0 b hb] at e; cases e) (q b o e)
  intro k
  induction k with
  | zero =>
    intro i s hk' hi hst hkp ⟨L, es, ep, t, hS, g⟩ hR
    obtain rfl : i = n := by omega
    refine codeAny_builtin F.entry_set_update_loop ?_; rw [Around.under_plainId F.plain_set_update_loop _]
    show wpAny _ A.in1 (pyNext (.ref I) >>= _) _ _ s
    refine wpAny_bind (W.done s _ _ hst fun s' hm => ?_)
    show wpAny _ A.in1 (ret Value.none) _ _ s'
    have q := kept hm hkp
    exact wpAny_pure (hR s' L es ep t (hm.mono up) (hS.keep (fun o e => hm.heap S o hSw e) fun p hp => (hk p (List.mem_of_mem_take (g.sub p hp))).keep q) g q)
  | succ k ih =>
    intro i s hk' hi hst hkp ⟨L, es, ep, t, hS, g⟩ hR
    have hlt : i < n := by omega
    refine codeAny_builtin F.entry_set_update_loop ?_; rw [Around.under_plainId F.plain_set_update_loop _]
    show wpAny _ A.in1 (pyNext (.ref I) >>= _) _ _ s
    refine wpAny_bind (W.item i s _ _ hlt hst fun v s' hP hst' hm => ?_)
    obtain ⟨p, hp, rfl⟩ := hval i v hP
    have q := kept hm hkp
    have hS' : SetN w s'.heap S L es ep t := hS.keep (fun o e => hm.heap S o hSw e) fun u hu => (hk u (List.mem_of_mem_take (g.sub u hu))).keep q
    have hx : Tk s'.heap p.2 p.1 := (hk p (List.mem_of_getElem? hp)).keep q
    show wpAny _ A.in1 (holding [Value.ref p.1] (setAdd S (.ref p.1)) >>= _) _ _ s'
    refine wpAny_bind (wpAny_holding ?_)
    unfold setAdd
    refine wpAny_holding (wpAny_bind (hx.hash hu ?_))
    refine addN (s := { s' with toks := s'.toks + p.2.draws }) hS' hx hu (by have := g.len; omega) fun b h' L' es' ep' t' sb hS2 c1 c2 => ?_
    have q2 : ∀ b o, h0.get? b = some o → h'.get? b = some o := fun b o e => (sb.2 b (fun z => by rw [z, hS0] at e; cases e)).trans (q b o e)
    refine wpAny_pure ⟨plainId_quiet F.plain_set_update_loop _, ih (i + 1) _ (by omega) hlt (W.frame _ s' _ _ hst' (Nat.le_add_right _ _) fun b hb o e => ?_) q2 ⟨L', es', ep', t', hS2, g.next hp c1 c2⟩ fun s'' L2 es2 ep2 t2 m2 S2 g2 k2 => ?_⟩
    · exact (sb.2 b (fun h : b = S => hSf (by rw [← h]; exact hb))).trans e
    · refine hR s'' L2 es2 ep2 t2 (Moved.trans W.gtrans ((hm.mono up).then_heap (Nat.le_add_right _ _) fun b o hb e => ?_) m2) S2 g2 k2
      exact (sb.2 b (fun h : b = S => hb (by rw [h]; exact List.mem_cons_self))).trans e
end
end Q

set_option Elab.async false
set_option linter.all false
set_option maxRecDepth 100000
set_option maxHeartbeats 4000000
/-! SE: set(xs), the call. -/
namespace Q
open PySem PySem.Spec PyProof.Rows L2
section
variable {P : Program} {w : World} {A : Around} {E : Value → Shared → Prop} {s : Shared}
/-- what the call of set leaves -/
def SetDone (w : World) (s : Shared) (ks : List (Addr × NestedKey)) (s' : Shared) : Prop :=
  ∃ h' tk L es ep t, s' = { s with heap := h', toks := tk } ∧ SetN w h' s.heap.objs.size L es ep t ∧ GotN ks ks.length L ∧ ∀ b o, s.heap.get? b = some o → h'.get? b = some o
theorem callSetN {l : Addr} {items : Array Value} (ks : List (Addr × NestedKey)) {Q : Value → Shared → Prop} (hh : A.handled = none) (hl : s.heap.IsList l items) (hit : items.toList = ks.map fun p => Value.ref p.1)
    (hk : ∀ p ∈ ks, Tk s.heap p.2 p.1) (hfew : ks.length < 64) (hu : A.units + 16 < cLine) (q : ∀ s', SetDone w s ks s' → Q (.ref s.heap.objs.size) s') :
    wpAny (model P w) A (call (.type "set") [.ref l]) Q E s := by
  have hisz : items.size = ks.length := by rw [← Array.length_toList, hit, List.length_map]
  obtain ⟨c, tl, hmro⟩ := F.called_set.mro
  have hmade := F.called_set.made
  have hsub := F.called_set.sub
  refine wpAny_call (codeAny_of_tree ?_)
  show wpAny _ _ (callAny (.type "set") _) _ _ _
  refine wpAny_pure ⟨Code.quiet_builtin _ (by decide +kernel), codeAny_builtin F.entry_type_call ?_⟩
  rw [Around.under_plain (weight_type_call_type "set" [.ref l] []) rfl]
  have h1 := F.called_set.notType
  have h2 := F.called_set.canCreate
  have hct := F.typeCall_set_1 (.ref l)
  repeat (any_goals (first | assumption | wp_step))
  refine codeAny_mono (code_set_led1 (.ref l) (E := E) (Q₁ := fun obj s₁ => obj = .ref s.heap.objs.size ∧ s₁ = { s with heap := s.heap.push (newSetO w) }) ⟨rfl, rfl⟩) fun r s₁ hr => ?_
  cases r with
  | error e => exact hr
  | ok fl =>
    cases fl with
    | ret obj =>
      obtain ⟨rfl, rfl⟩ := hr
      have hS : (s.heap.push (newSetO w)).get? s.heap.objs.size = some (newSetO w) := Heap.get?_push_size _ rfl
      have hT : Shared.TypeIs { s with heap := s.heap.push (newSetO w) } (.ref s.heap.objs.size) "set" := ⟨_, hS, rfl⟩
      have hli := F.called_set.init.lookup
      have hbi := F.called_set.init.bind (.ref s.heap.objs.size)
      repeat (any_goals (first | assumption | wp_step))
      refine codeAny_mono (codeAny_call_builtin (R := wants (fun r s₂ => r = .none ∧ SetDone w s ks s₂) E) F.called_set.init.plain F.entry_set_init (check_set_init_1 hT ?_)) fun r₂ s₂ hr₂ => ?_
      · obtain ⟨ol, hol, hcl, nl, hdl⟩ := hl
        obtain ⟨ocls, odict, odata, oslots⟩ := ol
        simp only at hcl hdl
        subst hcl; subst hdl
        have hol' : (s.heap.push (newSetO w)).get? l = some { cls := .type "list", dict := odict, data := .seq items nl, slots := oslots } := Heap.get?_push_of_some _ hol
        have hsls := F.sub_list_set
        have hslf := F.sub_list_frozenset
        have hne : (Value.type "list" == Value.type "dict") = false := by decide
        have hl1 : (s.heap.push (newSetO w)).IsList l items := ⟨_, hol', rfl, nl, rfl⟩
        unfold Builtin.«set.__init__» noKeywords Builtin.Frozenset.updateFrom
        generalize hPI : pyIter = PI
        wp_walk
        subst hPI
        refine wpAny_pyIter_list hl1 (wpAny_bind (wpAny_runValue ?_))
        have hlS : l < s.heap.objs.size := Heap.lt_size hol
        have hh3 : A.in1.in1.in1.handled = none := by simp [hh]
        have sz : (s.heap.push (newSetO w)).objs.size = s.heap.objs.size + 1 := Heap.size_push ..
        have hneI : l ≠ (s.heap.push (newSetO w)).objs.size := by rw [sz]; exact Nat.ne_of_lt (Nat.lt_succ_of_lt hlS)
        have hSf : s.heap.objs.size ∉ [(s.heap.push (newSetO w)).objs.size, l] := by
          rw [sz]; simp only [List.mem_cons, List.not_mem_nil, or_false, not_or]; exact ⟨Nat.ne_of_lt (Nat.lt_succ_self _), Nat.ne_of_gt hlS⟩
        have hval : ∀ (i : Nat) (v : Value), items[i]? = some v → ∃ p, ks[i]? = some p ∧ v = .ref p.1 := fun i v hv => by
          have e : items.toList[i]? = some v := by rw [Array.getElem?_toList]; exact hv
          rw [hit, List.getElem?_map] at e
          cases hq : ks[i]? with
          | none => rw [hq] at e; cases e
          | some p => rw [hq] at e; exact ⟨p, rfl, (Option.some.inj e).symm⟩
        have free : ∀ b, s.heap.objs.size ≤ b → s.heap.get? b = none := fun b hb => by
          cases e : s.heap.get? b with
          | none => rfl
          | some o => exact absurd (Heap.lt_size e) (Nat.not_lt.mpr hb)
        refine loopN ((Walks.list hh3 _ l hneI items).toS) s.heap.objs.size hSf ks hisz hfew hval s.heap hk (free _ (Nat.le_refl _)) (fun b hb => free b (by rw [List.mem_singleton.mp hb, sz]; exact Nat.le_succ _)) (show A.units + 3 + 8 < cLine by omega) (items.size - 0) 0 _ (by omega) (Nat.zero_le _)
          ⟨⟨_, Heap.get?_push_size _ rfl, rfl, rfl⟩, (hl1.push _)⟩ (fun b o e => Heap.get?_push_of_some _ (Heap.get?_push_of_some _ e)) ?hS0 ?hR
        case hS0 => exact ⟨[], #[], 0, _, SetN.new (Heap.get?_push_of_some _ hS), fun p h => (by cases h), fun p h => (by simp at h), Nat.le_refl _⟩
        case hR =>
          intro s' L es ep t hm hS' g' kp
          obtain ⟨h', g2, d', tk', os'⟩ := s'
          obtain rfl : g2 = s.gens := hm.gens
          obtain rfl : d' = s.drawn := hm.drawn
          obtain rfl : os' = s.os := hm.os
          show wpAny _ _ _ _ _ _
          refine wpAny_pure ?_
          show wpAny _ _ (ret Value.none) _ _ _
          rw [hisz] at g'
          exact wpAny_pure ⟨rfl, h', tk', L, es, ep, t, rfl, hS', g', kp⟩
      · cases r₂ with
        | error e => exact hr₂
        | ok fl₂ =>
          cases fl₂ with
          | ret r =>
            obtain ⟨rfl, d⟩ := hr₂
            repeat (any_goals (first | assumption | wp_step))
            exact q _ d
          | _ => exact hr₂.elim
    | _ => exact hr.elim
end
end Q

set_option Elab.async false
set_option linter.all false
set_option maxRecDepth 100000
set_option maxHeartbeats 4000000
/-! SF: data as keys and back. -/
namespace Q
open PySem PySem.Spec PyProof.Rows L2
mutual
/-- data as a key -/
def nkD : D → NestedKey
  | .int i => .num i
  | .str x => .text x
  | .tup ds => .tup (nksD ds)
  | _ => .none
def nksD : List D → List NestedKey
  | [] => []
  | d :: ds => nkD d :: nksD ds
end
mutual
/-- ints, texts, tuples of these -/
def keyD : D → Bool
  | .int _ => true
  | .str _ => true
  | .tup ds => keysD ds
  | _ => false
def keysD : List D → Bool
  | [] => true
  | d :: ds => keyD d && keysD ds
end
mutual
/-- a key as data -/
def dkD : NestedKey → D
  | .none => .non
  | .num i => .int i
  | .text x => .str x
  | .tup ks => .tup (dksD ks)
def dksD : List NestedKey → List D
  | [] => []
  | k :: ks => dkD k :: dksD ks
end
mutual
theorem dk_nk : ∀ d : D, keyD d = true → dkD (nkD d) = d
  | .int _, _ => rfl
  | .str _, _ => rfl
  | .tup ds, h => by simp only [keyD] at h; simp only [nkD, dkD, dks_nks ds h]
  | .non, h => by cases h
  | .bl _, h => by cases h
  | .lst _, h => by cases h
  | .frz _, h => by cases h
  | .loc _, h => by cases h
  | .ty _, h => by cases h
theorem dks_nks : ∀ ds : List D, keysD ds = true → dksD (nksD ds) = ds
  | [], _ => rfl
  | d :: ds, h => by
    simp only [keysD, Bool.and_eq_true] at h
    simp only [nksD, dksD, dk_nk d h.1, dks_nks ds h.2]
end
mutual
theorem nk_dep : ∀ d : D, keyD d = true → (nkD d).depth ≤ D.dep d
  | .int _, _ => Nat.le_refl _
  | .str _, _ => Nat.le_refl _
  | .tup ds, h => by simp only [keyD] at h; have := nks_dep ds h; simp only [nkD, NestedKey.depth, D.dep]; omega
  | .non, h => by cases h
  | .bl _, h => by cases h
  | .lst _, h => by cases h
  | .frz _, h => by cases h
  | .loc _, h => by cases h
  | .ty _, h => by cases h
theorem nks_dep : ∀ ds : List D, keysD ds = true → NestedKey.depthAll (nksD ds) ≤ D.deps ds
  | [], _ => Nat.le_refl _
  | d :: ds, h => by
    simp only [keysD, Bool.and_eq_true] at h
    have h1 := nk_dep d h.1
    have h2 := nks_dep ds h.2
    simp only [nksD, NestedKey.depthAll, D.deps]; omega
end
mutual
theorem cmp_key : ∀ d : D, D.cmp d d = true → keyD d = true
  | .int _, _ => rfl
  | .str _, _ => rfl
  | .tup ds, h => by simp only [D.cmp] at h; simp only [keyD]; exact cmps_key ds h
  | .non, h => by simp [D.cmp] at h
  | .bl _, h => by simp [D.cmp] at h
  | .lst _, h => by simp [D.cmp] at h
  | .frz _, h => by simp [D.cmp] at h
  | .loc _, h => by simp [D.cmp] at h
  | .ty _, h => by simp [D.cmp] at h
theorem cmps_key : ∀ ds : List D, D.cmps ds ds = true → keysD ds = true
  | [], _ => rfl
  | d :: ds, h => by
    simp only [D.cmps, Bool.and_eq_true] at h
    simp only [keysD, cmp_key d h.1, cmps_key ds h.2, Bool.and_self]
end
mutual
theorem eq_key : ∀ x y : D, keyD x = true → (D.eq x y = true ↔ x = y) ∨ keyD y = false
  | .int i, y, _ => by cases y <;> simp [D.eq, keyD]
  | .str i, y, _ => by cases y <;> simp [D.eq, keyD]
  | .tup xs, y, h => by
    simp only [keyD] at h
    cases y with
    | tup ys =>
      rcases eqs_key xs ys h with e | e
      · left; simp only [D.eq, e, D.tup.injEq]
      · right; simpa [keyD] using e
    | _ => simp [D.eq, keyD]
  | .non, _, h => by cases h
  | .bl _, _, h => by cases h
  | .lst _, _, h => by cases h
  | .frz _, _, h => by cases h
  | .loc _, _, h => by cases h
  | .ty _, _, h => by cases h
theorem eqs_key : ∀ xs ys : List D, keysD xs = true → (D.eqs xs ys = true ↔ xs = ys) ∨ keysD ys = false
  | [], ys, _ => by cases ys <;> simp [D.eqs, keysD]
  | x :: xs, [], _ => by simp [D.eqs]
  | x :: xs, y :: ys, h => by
    simp only [keysD, Bool.and_eq_true] at h
    rcases eq_key x y h.1 with e1 | e1
    · rcases eqs_key xs ys h.2 with e2 | e2
      · left; simp [D.eqs, e1, e2]
      · right; simp [keysD, e2]
    · right; simp [keysD, e1]
end
theorem eq_iff {x y : D} (hx : keyD x = true) (hy : keyD y = true) : D.eq x y = true ↔ x = y := by
  rcases eq_key x y hx with e | e
  · exact e
  · rw [hy] at e; cases e
mutual
theorem nested_reads {h : Heap} : ∀ (d : D) (v : Value) (as : List Addr), Reads h v (D.py d) as → keyD d = true → NestedIs h (nkD d) v
  | .int i, v, as, r, _ => by cases r; exact .int _ _
  | .str x, v, as, r, _ => by cases r; exact .text _ _
  | .tup ds, v, as, r, k => by
    simp only [keyD] at k
    simp only [D.py] at r
    cases r with
    | tuple h1 h2 h3 h4 => exact .tup h1 h2 h3 (nested_readsAll ds _ _ h4 k)
  | .non, _, _, _, k => by cases k
  | .bl _, _, _, _, k => by cases k
  | .lst _, _, _, _, k => by cases k
  | .frz _, _, _, _, k => by cases k
  | .loc _, _, _, _, k => by cases k
  | .ty _, _, _, _, k => by cases k
theorem nested_readsAll {h : Heap} : ∀ (ds : List D) (vs : List Value) (as : List Addr), ReadsAll h vs (D.pys ds) as → keysD ds = true → NestedAll h (nksD ds) vs
  | [], vs, as, r, _ => by cases r; exact .nil
  | d :: ds, vs, as, r, k => by
    simp only [keysD, Bool.and_eq_true] at k
    simp only [D.pys] at r
    cases r with
    | cons r1 r2 => exact .cons (nested_reads d _ _ r1 k.1) (nested_readsAll ds _ _ r2 k.2)
end
/-! ### each once -/
theorem mem_dedup {ds : List D} (k : ∀ d ∈ ds, keyD d = true) : ∀ x, x ∈ dedup ds ↔ x ∈ ds := by
  induction ds with
  | nil => intro x; exact Iff.rfl
  | cons d ds ih =>
    intro x
    have ih := ih fun e he => k e (List.mem_cons_of_mem _ he)
    have kd := k d List.mem_cons_self
    simp only [dedup, List.mem_cons, List.mem_filter, ih]
    constructor
    · rintro (e | ⟨h, _⟩)
      · exact .inl e
      · exact .inr h
    · rintro (e | h)
      · exact .inl e
      · rcases Classical.em (x = d) with z | z
        · exact .inl z
        · refine .inr ⟨h, ?_⟩
          have kx := k x (List.mem_cons_of_mem _ h)
          cases e : D.eq d x with
          | false => rfl
          | true => exact absurd ((eq_iff kd kx).mp e).symm z
theorem nodup_dedup {ds : List D} (k : ∀ d ∈ ds, keyD d = true) : (dedup ds).Nodup := by
  induction ds with
  | nil => exact List.nodup_nil
  | cons d ds ih =>
    have kd := k d List.mem_cons_self
    have k' : ∀ e ∈ ds, keyD e = true := fun e he => k e (List.mem_cons_of_mem _ he)
    refine List.nodup_cons.mpr ⟨fun h => ?_, (ih k').filter _⟩
    obtain ⟨h1, h2⟩ := List.mem_filter.mp h
    have := (eq_iff kd kd).mpr rfl
    rw [this] at h2; cases h2
theorem isort_same {ds es : List D} (h : Okay ds) (p : ds.Perm es) : isort ds = isort es := by
  have h' : Okay es := ⟨fun d hd e he => h.cmp d (p.mem_iff.mpr hd) e (p.mem_iff.mpr he), fun d hd => h.pl d (p.mem_iff.mpr hd), fun d hd => h.dp d (p.mem_iff.mpr hd)⟩
  have hlt : ∀ a b, a ∈ ds → b ∈ ds → PySem.W.dataLt (D.py a) (D.py b) = D.lt a b := fun a b ha hb => lt_py a b (h.cmp a ha b hb) (h.pl a ha) (h.pl b hb)
  have s1 := isort_pw (S := (· ∈ ds)) hlt ds fun y hy => hy
  have s2 := isort_pw (S := (· ∈ ds)) hlt es fun y hy => p.mem_iff.mpr hy
  refine List.Perm.eq_of_pairwise (le := fun a b => leD a b = true) (fun a b ha hb h1 h2 => ?_) s1 s2 ((isort_perm ds).trans (p.trans (isort_perm es).symm))
  have ha := (isort_perm ds).mem_iff.mp ha
  have hb := p.mem_iff.mpr ((isort_perm es).mem_iff.mp hb)
  have e1 : (!PySem.W.dataLt (D.py b) (D.py a)) = true := h1
  have e2 : (!PySem.W.dataLt (D.py a) (D.py b)) = true := h2
  rw [hlt b a hb ha] at e1; rw [hlt a b ha hb] at e2
  exact lt_tri a b (h.cmp a ha b hb) (by simpa using e2) (by simpa using e1)
theorem Okay.sub {ds es : List D} (h : Okay ds) (s : ∀ d ∈ es, d ∈ ds) : Okay es := ⟨fun d hd e he => h.cmp d (s d hd) e (s e he), fun d hd => h.pl d (s d hd), fun d hd => h.dp d (s d hd)⟩
/-- values in another order -/
theorem each_perm {α β : Type} {R : α → β → Prop} {us us' : List α} (p : us'.Perm us) : ∀ {ds : List β}, PySem.W.EachIs R us ds → ∃ ds', PySem.W.EachIs R us' ds' ∧ ds'.Perm ds := by
  induction p with
  | nil => exact fun e => ⟨_, e, .refl _⟩
  | cons x p ih =>
    intro ds e
    cases e with
    | cons r t =>
      obtain ⟨ds', e', p'⟩ := ih t
      exact ⟨_, .cons r e', p'.cons _⟩
  | swap x y l =>
    intro ds e
    cases e with
    | cons r t =>
      cases t with
      | cons r2 t => exact ⟨_, .cons r2 (.cons r t), .swap ..⟩
  | trans p1 p2 ih1 ih2 =>
    intro ds e
    obtain ⟨d2, e2, q2⟩ := ih2 e
    obtain ⟨d1, e1, q1⟩ := ih1 e2
    exact ⟨d1, e1, q1.trans q2⟩
end Q

set_option Elab.async false
set_option linter.all false
set_option maxRecDepth 100000
set_option maxHeartbeats 4000000
/-! SG: sorted(set(xs)) as a rule. -/
namespace Q
open PySem PySem.Spec PyProof.Rows L2
open PySem.W (SortsAt AllAlike dataKind EachIs)
/-- what stands at a set's address, its elements apart -/
structure SetE (w : World) (h : Heap) (a : Addr) (L : List (Addr × NestedKey)) : Prop where
  ex : ∃ (es : Array (Int × Value)) (ep : Nat) (t : SetTable), (∃ o, h.get? a = some o ∧ o.ExactSet ∧ o.data = .set es ep t) ∧ es.toList = L.map (rowN w) ∧ TabOk t (hsN w L) ∧ (w.params.followText "set-order" = true ∨ t.led = true) ∧ L.length * 5 < t.mask * 3 ∧ L.length < 64
def SetNO (w : World) (a : Addr) (L : List (Addr × NestedKey)) : HO := .ext fun h => SetE w h a L
theorem SetN.e {w : World} {h : Heap} {a : Addr} {L : List (Addr × NestedKey)} {es : Array (Int × Value)} {ep : Nat} {t : SetTable} (R : SetN w h a L es ep t) : SetE w h a L := ⟨es, ep, t, R.ob, R.row, R.tab, R.led, R.room, R.few⟩
theorem setNO_new {P : Program} {w : World} {H : Hp} {h : Heap} {a : Addr} {L : List (Addr × NestedKey)} (R : SetE w h a L) : ObjOk P w H h a (SetNO w a L) := by
  obtain ⟨es, ep, t, ⟨o, ho, r⟩, z⟩ := id R.ex
  refine ⟨R, ⟨o, ho⟩, fun h1 h2 p k => ?_⟩
  obtain ⟨es', ep', t', ⟨o', ho', r'⟩, z'⟩ := SetE.ex p
  exact ⟨es', ep', t', ⟨o', k o' ho', r'⟩, z'⟩
def isTup : D → Bool
  | .tup _ => true
  | _ => false
def setOk (ds : List D) : Bool := sortable ds && ds.all isTup && decide (D.deps ds ≤ 8) && decide (ds.length < 64)
/-- the keys of a list's things -/
theorem keys_of {X : Cx} {pins : List (Addr × Obj)} {σ : Sl} {H G : Hp} {Ls : List Addr} {s : Shared} (I : Inv X pins σ H s) (sub : Sub G H) : ∀ {vs : List V} {us : List Value} {ds : List D}, Vals vs us → Dats X.K G Ls vs ds → (∀ d ∈ ds, isTup d = true ∧ keyD d = true ∧ D.plain d = true ∧ D.dep d ≤ 8) →
    ∃ ks : List (Addr × NestedKey), us = ks.map (fun p => Value.ref p.1) ∧ ks.map (·.2) = ds.map nkD ∧ ∀ p ∈ ks, Dat X.K G Ls (.ref p.1) (dkD p.2) ∧ Tk s.heap p.2 p.1
  | _, _, _, .nil, .nil, _ => ⟨[], rfl, rfl, fun _ h => by cases h⟩
  | _, _, _, .cons r rs, .cons (d := d) dd ds, h => by
    obtain ⟨ks, h1, h2, h3⟩ := keys_of I sub rs ds fun e he => h e (List.mem_cons_of_mem _ he)
    obtain ⟨t, k, p, z⟩ := h d List.mem_cons_self
    obtain ⟨as, rd⟩ := Dp.reads I _ _ _ (Dat.dp sub dd p) r
    have ni := nested_reads d _ _ rd k
    cases dd with
    | tup sq ts =>
      rename_i a _ es
      cases r
      refine ⟨(a, nkD (.tup es)) :: ks, by rw [List.map_cons, h1], by rw [List.map_cons, List.map_cons, h2], fun q hq => ?_⟩
      rcases List.mem_cons.mp hq with e | hq
      · subst e
        exact ⟨by rw [dk_nk _ k]; exact .tup sq ts, ni, Nat.le_trans (nk_dep _ k) z⟩
      · exact h3 q hq
    | _ => cases t
def rSetN (K : PySem.W.Frag) (w : World) : List V → Hp → VK → Prop := fun xs H Q => ∃ (l : Addr) (vs : List V) (ds : List D) (G : Hp) (Ls : List Addr), xs = [.ref l] ∧ SqL K H l vs ∧ Sub G H ∧ Dats K G Ls vs ds ∧ setOk ds = true ∧
  ∀ (a : Addr) (L : List (Addr × NestedKey)), H a = none → (∀ p ∈ L, Dat K G Ls (.ref p.1) (dkD p.2)) → (L.map fun p => dkD p.2).Perm (dedup ds) → Q (.ref a) (upd H a (SetNO w a L))
theorem setOk_all {ds : List D} (h : setOk ds = true) : Okay ds ∧ ds.length < 64 ∧ ∀ d ∈ ds, isTup d = true ∧ keyD d = true ∧ D.plain d = true ∧ D.dep d ≤ 8 := by
  simp only [setOk, Bool.and_eq_true, decide_eq_true_eq, List.all_eq_true] at h
  have ok := sortable_ok h.1.1.1
  exact ⟨ok, h.2, fun d hd => ⟨h.1.1.2 d hd, cmp_key d (ok.cmp d hd d hd), ok.pl d hd, deps_mem h.1.2 d hd⟩⟩
section
variable {X : Cx} {c : Fx} {W : WX}
theorem cr_setN (hc : X.calm = true) (hu : X.A.units + 64 < cLine) : CallR X (.type "set") (rSetN X.K X.w) := by
  intro pins s σ H xs us Q I r h
  obtain ⟨l, vs, ds, G, Ls, rfl, hl, sub, dd, ok, q⟩ := h
  obtain ⟨oky, few, al⟩ := setOk_all ok
  rw [Vals.ref1 r]
  obtain ⟨its, rv, pl, hz⟩ := I.list hl
  obtain ⟨ks, e1, e2, e3⟩ := keys_of I sub rv dd al
  have hn : H s.heap.objs.size = none := I.hok.fresh (Nat.le_refl _)
  have kl : ks.length = ds.length := by have := congrArg List.length e2; simpa using this
  have kd : ∀ d ∈ ds, keyD d = true := fun d hd => (al d hd).2.1
  have back : ∀ p ∈ ks, ∃ d ∈ ds, p.2 = nkD d ∧ dkD p.2 = d := fun p hp => by
    have : p.2 ∈ ds.map nkD := by rw [← e2]; exact List.mem_map.mpr ⟨p, hp, rfl⟩
    obtain ⟨d, hd, e⟩ := List.mem_map.mp this
    exact ⟨d, hd, e.symm, by rw [← e]; exact dk_nk d (kd d hd)⟩
  refine callSetN (P := X.prog) (w := X.w) ks (I.ok.hd hc) pl.isList (by simpa using e1) (fun p hp => (e3 p hp).2) (by omega) (by omega) fun s' D => ?_
  obtain ⟨h', tk, L, es, ep, t, rfl, R, g, k⟩ := D
  have sub2 : ∀ p ∈ L, p ∈ ks := fun p hp => List.mem_of_mem_take (g.sub p hp)
  refine ⟨.ref s.heap.objs.size, upd H s.heap.objs.size (SetNO X.w s.heap.objs.size L), I.laid (t' := tk) k (Nat.le_refl _) (setNO_new R.e), rfl, q _ L hn (fun p hp => (e3 p (sub2 p hp)).1) ?_⟩
  have nd1 : (L.map fun p => dkD p.2).Nodup := by
    refine List.pairwise_map.mpr ((List.pairwise_map.mp R.nd).imp_of_mem fun {p r} hp hr ne e => ne ?_)
    obtain ⟨d, hd, a1, a2⟩ := back p (sub2 p hp)
    obtain ⟨d', hd', b1, b2⟩ := back r (sub2 r hr)
    have e : dkD p.2 = dkD r.2 := e
    rw [a2, b2] at e
    show p.2 = r.2
    rw [a1, b1, e]
  refine (List.perm_ext_iff_of_nodup nd1 (nodup_dedup kd)).mpr fun x => ?_
  rw [mem_dedup kd]
  constructor
  · intro hx
    obtain ⟨p, hp, e⟩ := List.mem_map.mp hx
    obtain ⟨d, hd, _, a2⟩ := back p (sub2 p hp)
    have e : dkD p.2 = x := e
    rw [← e, a2]; exact hd
  · intro hx
    have : nkD x ∈ ks.map (·.2) := by rw [e2]; exact List.mem_map.mpr ⟨x, hx, rfl⟩
    obtain ⟨p, hp, e⟩ := List.mem_map.mp this
    obtain ⟨r, hr, e'⟩ := List.mem_map.mp (g.all p (by rw [List.take_length]; exact hp))
    refine List.mem_map.mpr ⟨r, hr, ?_⟩
    have z : r.2 = nkD x := e'.trans e
    show dkD r.2 = x
    rw [z]; exact dk_nk x (kd x hx)
def rSortedN (K : PySem.W.Frag) (w : World) : List V → Hp → VK → Prop := fun vs H Q => ∃ (a : Addr) (L : List (Addr × NestedKey)) (ds : List D) (G : Hp) (Ls : List Addr), vs = [.ref a] ∧ H a = some (SetNO w a L) ∧ Sub G H ∧ (∀ p ∈ L, Dat K G Ls (.ref p.1) (dkD p.2)) ∧ (L.map fun p => dkD p.2).Perm ds ∧ Okay ds ∧
  ∀ (p : Addr) (out : List V), H p = none → Dats K G Ls out (isort ds) → Q (.ref p) (upd H p (.lst out))
theorem cr_sortedN (hc : X.calm = true) (hu : X.A.units + 64 < cLine) : CallR X (.builtin "sorted") (rSortedN X.K X.w) := by
  intro pins s σ H vs us Q I r h
  obtain ⟨a, L, ds, G, Ls, rfl, ha, sub, dd, pm, ok, q⟩ := h
  have R0 : SetE X.w s.heap a L := (I.hok a _ ha).1
  obtain ⟨es, ep, t, ⟨o, ho, hex, hd⟩, row, T, led, room, few⟩ := R0.ex
  have hz := row_len row
  rw [Vals.ref1 r]
  refine Calls.call_function_entry kind_sorted plain_sorted entry_sorted (args_sorted1 _) ?_
  unfold Builtin.«sorted»
  refine wpAny_bind (m := checkCount "sorted" 1 1 _) (wpAny_pure ?_)
  refine wpAny_bind (collect_set (A := X.A.in1) (I.ok.hd hc) ⟨o, ho, hex.1, hd⟩ (tab_fits T (by rw [hsN_len, hz]) (by omega)) (by unfold scanBound; omega) T.ris led fun s1 vs k1 hz1 g1 o1 pv => ?_)
  have rows : es.toList.map (·.2) = L.map fun p => Value.ref p.1 := by rw [row, List.map_map]; rfl
  rw [rows] at pv
  -- the values and their data
  have each : EachIs (OneD X.K G Ls) (L.map fun p => Value.ref p.1) (L.map fun p => dkD p.2) := by
    have go : ∀ M : List (Addr × NestedKey), (∀ p ∈ M, p ∈ L) → EachIs (OneD X.K G Ls) (M.map fun p => Value.ref p.1) (M.map fun p => dkD p.2) := fun M => by
      induction M with
      | nil => exact fun _ => .nil
      | cons p M ih => exact fun hs => .cons ⟨.ref p.1, rfl, dd p (hs p List.mem_cons_self)⟩ (ih fun x hx => hs x (List.mem_cons_of_mem _ hx))
    exact go L fun _ h => h
  obtain ⟨es2, e, pe⟩ := each_perm pv each
  have pds : es2.Perm ds := pe.trans pm
  have ok2 : Okay es2 := ok.sub fun d hd => pds.mem_iff.mp hd
  have er := each_reads I sub e ok2.pl
  have vl : vs.length < 64 := by rw [pv.length_eq, List.length_map]; exact few
  refine wpAny_bind (wpAny_newList ?_ (by rw [sizeLine_eq]; omega))
  have hoL : (s1.heap.push (seqObj "list" vs.toArray 0)).get? s1.heap.objs.size = some (seqObj "list" vs.toArray 0) := Heap.get?_push_size _ rfl
  have kp : ∀ b u, s.heap.get? b = some u → (PySem.W.sortingHeap (s1.heap.push (seqObj "list" vs.toArray 0)) s1.heap.objs.size vs).get? b = some u := fun b u hb => by
    have h1 := k1 b u hb
    exact PySem.W.sortingHeap_old (Nat.ne_of_lt (Heap.lt_size h1)) (Heap.get?_push_of_some _ h1)
  have er2 : EachIs (fun v d => ∃ as, Reads (PySem.W.sortingHeap (s1.heap.push (seqObj "list" vs.toArray 0)) s1.heap.objs.size vs) v (D.py d) as) vs es2 := er.mono fun _ _ ⟨as, r⟩ => ⟨as, PyProof.Rows.Reads.keeps kp r⟩
  have al : AllAlike (es2.map D.py) := fun x hx y hy => by
    obtain ⟨d, hd, rfl⟩ := List.mem_map.mp hx
    obtain ⟨u, hu, rfl⟩ := List.mem_map.mp hy
    exact cmp_alike d u (ok2.cmp d hd u hu)
  have nn : ∀ d ∈ es2.map D.py, d ≠ .none := fun x hx z => by
    obtain ⟨d, hd, e⟩ := List.mem_map.mp hx
    have k := ok2.cmp d hd d hd
    rw [z] at e
    cases d with
    | int _ => simp [D.py] at e
    | str _ => simp [D.py] at e
    | tup _ => simp [D.py] at e
    | _ => simp [D.cmp] at k
  have rm : ∀ d ∈ es2.map D.py, X.A.in1.in1.units + d.depth < cLine := fun x hx => by
    obtain ⟨d, hd, rfl⟩ := List.mem_map.mp hx
    have h1 := D.dep_py d
    have h2 := ok2.dp d hd
    show X.A.units + 1 + 1 + _ < _
    omega
  have st := sorts_any (prog := X.prog) (w := X.w) (A := X.A.in1.in1) (s := { s1 with heap := PySem.W.sortingHeap (s1.heap.push (seqObj "list" vs.toArray 0)) s1.heap.objs.size vs }) (PySem.W.each_map (R := fun v d => ∃ as, Reads _ v d as) D.py er2) al nn rm
  refine wpAny_bind (wpAny_holding (wpAny_call_entry slot_list_sort ⟨_, hoL, rfl⟩ entry_list_sort (PySem.W.list_sort_vals (s := { s1 with heap := s1.heap.push (seqObj "list" vs.toArray 0) }) hoL st (by rw [sizeLine_eq]; omega) ⟨_, rfl, ?_⟩) (args_list_sort _)))
  have out := PySem.W.sortVals_data false e er2 al
  rw [sort_is ok2, isort_same ok2 pds] at out
  obtain ⟨ys, y1, y2⟩ := one_each out
  generalize PySem.W.sortVals (dataKind (PySem.W.sortingHeap (s1.heap.push (seqObj "list" vs.toArray 0)) s1.heap.objs.size vs) (es2.map D.py)) false vs vs = ov at y1 out ⊢
  have lenD : ds.length < 64 := by rw [← pm.length_eq, List.length_map]; exact few
  have ylen : ys.length ≤ sizeLine := by rw [y2.length, (isort_perm ds).length_eq, sizeLine_eq]; omega
  obtain ⟨cp, hcp⟩ := sortedHeap_at (vs := vs) (out := ov.toArray) hoL
  have hp : s.heap.objs.size ≤ s1.heap.objs.size := hz1
  have hn : H s1.heap.objs.size = none := I.hok.fresh hp
  have keep : ∀ b u, s.heap.get? b = some u → (sortedHeap (s1.heap.push (seqObj "list" vs.toArray 0)) s1.heap.objs.size vs ov.toArray).get? b = some u := fun b u hb => by
    have h1 := k1 b u hb
    have lt := Heap.lt_size h1
    rw [sortedHeap_old (Nat.ne_of_lt lt) (by rw [size_push']; exact Nat.lt_succ_of_lt lt)]
    exact Heap.get?_push_of_some _ h1
  have J : Inv X pins σ (upd H s1.heap.objs.size (.lst ys)) { s with heap := sortedHeap (s1.heap.push (seqObj "list" vs.toArray 0)) s1.heap.objs.size vs ov.toArray, gens := s1.gens, drawn := s1.drawn, toks := s1.toks } :=
    I.call (ch := []) (Un.laid keep hp hn) (I.hok.laid keep hp ⟨ylen, ov, cp, y1, hcp⟩) (by rw [g1]; exact I.bare) (fun _ z => nomatch z)
  refine wpAny_pure ⟨_, rfl, ?_⟩
  obtain ⟨h1, g1', d1, t1, os1⟩ := s1
  obtain rfl : os1 = s.os := o1
  exact ⟨.ref _, _, J, rfl, q _ _ hn y2⟩
end
end Q

set_option Elab.async false
set_option linter.all false
set_option maxRecDepth 100000
set_option maxHeartbeats 4000000
/-! SH: sorted(set(xs)) as a function. -/
namespace Q
open PySem PySem.Spec PyProof.Rows L2
/-- sorted(set(xs)), xs a list of tuples, fewer than 64 -/
def fSset' (f : FE) : FE := fun env μ => (f env μ).bind fun x μ => match sq env μ x with
  | some (.lst ds) => if setOk ds then .ok (.val (.lst (isort (dedup ds)))) μ else .bad
  | _ => .bad
section
variable {X : Cx} {c : Fx} {W : WX}
theorem dn_sset {e : Expr} {fa : FE} {p p2 pos pos2 : Pos} (hu : X.A.units + 64 < cLine) (hm : X.mg "sorted" = none) (hm2 : X.mg "set" = none) (ha : DE X c W e fa) (hc : X.calm = true := by rfl) (hgl : Gl X "sorted" := by rfl) (hgl2 : Gl X "set" := by rfl) (hk : X.K = c.K := by rfl)
    (hs : starEach [e] X.env = (false, eval e X.env) :: starEach [] X.env := by rfl) (hs2 : starEach [.Call (.Name "set" p2) [e] [] pos2] X.env = (false, eval (.Call (.Name "set" p2) [e] [] pos2) X.env) :: starEach [] X.env := by rfl)
    (hb : (backTo pos2 (starEach [] X.env)).any (·.1) = false := by rfl) (hb2 : (backTo pos (starEach [] X.env)).any (·.1) = false := by rfl) : DN X c W (.Call (.Name "sorted" p) [.Call (.Name "set" p2) [e] [] pos2] [] pos) (fSset' fa) :=
  PE.of (pe_callB (cr_sortedN hc hu) hgl hm (by decide +kernel) (pa_cons (pe_callTy (cr_setN hc hu) hgl2 hm2 (by decide +kernel) (pa_cons ha pa_nil hs) (by decide) (by decide) hs hb) pa_nil hs2) (by decide) (by decide) hs2 hb2) fun σ H Q q => by
  obtain ⟨G, env, μ, R, q⟩ := q
  refine ⟨G, env, μ, R, (tG.bind q).imp (fun _ _ _ _ h => h) ?_⟩
  rintro x H1 ⟨G1, μ1, dx, x1, R1, d1, h1⟩
  split at h1
  · rename_i ds es
    split at h1
    · rename_i ok
      obtain ⟨a, vs, rfl, s1, t1⟩ := sq_lst R1 d1 es
      obtain ⟨oky, few, al⟩ := setOk_all ok
      have kd : ∀ d ∈ ds, keyD d = true := fun d hd => (al d hd).2.1
      refine ⟨a, vs, ds, G1, c.L, rfl, hk ▸ s1, R1.sub, hk ▸ t1, ok, fun b L hbn hL hp => ?_⟩
      obtain ⟨R2, x2⟩ := R1.newH (o := SetNO X.w b L) hbn
      refine ⟨b, L, dedup ds, G1, c.L, rfl, upd_same, R2.sub, hL, hp, oky.sub fun d hd => (mem_dedup kd d).mp hd, fun p' out hpn ho => ?_⟩
      exact newLst (H0 := H) R2 (hk ▸ ho) ((tG.shift x2 h1).imp (fun _ _ _ _ z => z.base (x1.trans x2)) fun _ _ z => z) p' hpn
    · exact h1.elim
  · exact h1.elim
end
end Q

set_option Elab.async false
set_option linter.all false
set_option maxRecDepth 100000
set_option maxHeartbeats 4000000
/-! SI: a list of the frame's own is put into the store, for the rest of the body: so a def that is called may change it. -/
namespace Q
open PySem PySem.Spec PyProof.Rows L2
mutual
def noLoc : D → Bool
  | .loc _ => false
  | .tup ds => noLocs ds
  | .lst ds => noLocs ds
  | .frz ds => noLocs ds
  | _ => true
def noLocs : List D → Bool
  | [] => true
  | d :: ds => noLoc d && noLocs ds
end
section
variable {K : PySem.W.Frag} {G : Hp} {L L' : List Addr}
mutual
theorem Dat.other : ∀ {v : V} {d : D}, Dat K G L v d → noLoc d = true → Dat K G L' v d
  | _, _, .non, _ => .non
  | _, _, .bl b, _ => .bl b
  | _, _, .int i, _ => .int i
  | _, _, .str x, _ => .str x
  | _, _, .ty n, _ => .ty n
  | _, _, .tup h t, n => .tup h (Dats.other t (by simpa [noLoc] using n))
  | _, _, .lst h t, n => .lst h (Dats.other t (by simpa [noLoc] using n))
  | _, _, .frz h t, n => .frz h (Dats.other t (by simpa [noLoc] using n))
  | _, _, .loc h, n => by simp [noLoc] at n
theorem Dats.other : ∀ {vs : List V} {ds : List D}, Dats K G L vs ds → noLocs ds = true → Dats K G L' vs ds
  | _, _, .nil, _ => .nil
  | _, _, .cons h t, n => by
    simp only [noLocs, Bool.and_eq_true] at n
    exact .cons (Dat.other h n.1) (Dats.other t n.2)
end
end
def noLocE : EV → Bool
  | .un => true
  | .val d => noLoc d
  | .own ds => noLocs ds
def noLocM (μ : Mu) : Bool := μ.all noLocs
/-- slot i's own list lies in the store, for the rest -/
def fShr (i : Nat) (f : FS) : FS := fun env μ => match env[i]? with
  | some (.own ds) => match f (env.set i (.val (.loc μ.length))) (μ ++ [ds]) with
    | .ret d μ' => if noLocE d && noLocM μ' then .ret d μ'.dropLast else .bad
    | .exc e env' μ' => if noLocs (e.fs.map (·.2)) && noLocM μ' then .exc e (List.replicate env'.length .un) μ'.dropLast else .bad
    | _ => .bad
  | _ => .bad
/-- the context with one more list in the store -/
abbrev Fx.more (c : Fx) (a : Addr) : Fx := { c with L := c.L ++ [a] }
section
variable {X : Cx} {c : Fx} {W : WX} {σ : Sl} {H G : Hp} {env : En} {μ : Mu}
theorem FRel.share (R : FRel c σ H G env μ) {i : Nat} {ds : List D} (h : env[i]? = some (.own ds)) : ∃ a, c.H0 a = none ∧ a ∉ c.L ∧ FRel (c.more a) σ H G (env.set i (.val (.loc μ.length))) (μ ++ [ds]) := by
  obtain ⟨a, vs, h1, h2, h3, h4, h5, h6⟩ := R.own i ds h
  have ml : ∀ (n : Nat) (b : Addr), c.L[n]? = some b → (c.L ++ [a])[n]? = some b := fun n b e => by
    have := (List.getElem?_eq_some_iff.mp e).1
    rw [List.getElem?_append_left this]; exact e
  have la : (c.L ++ [a])[μ.length]? = some a := by rw [← R.len, List.getElem?_append_right (Nat.le_refl _), Nat.sub_self]; rfl
  refine ⟨a, h5, h4, ⟨R.sub, ?_, by simp [R.len], fun n b es e1 e2 => ?_, fun b o e n => R.keep b o e (fun z => n (List.mem_append_left _ z)), R.gg, fun b o e => ?_⟩, fun j d e => ?_, fun j es e => ?_, fun j k es fs b e1 e2 e3 e4 => ?_, by rw [List.length_set]; exact R.el⟩
  · exact List.nodup_append.mpr ⟨R.nd, by simp, fun x hx y hy z => h4 (by rw [List.mem_singleton.mp hy] at z; exact z ▸ hx)⟩
  · rcases Nat.lt_or_ge n c.L.length with q | q
    · rw [List.getElem?_append_left q] at e1
      rw [List.getElem?_append_left (by rw [← R.len]; exact q)] at e2
      obtain ⟨q1, us, q2, q3⟩ := R.loc n b es e1 e2
      exact ⟨q1, us, q2, q3.mono Sub.refl ml⟩
    · rw [List.getElem?_append_right q] at e1
      rw [List.getElem?_append_right (by rw [← R.len]; exact q), ← R.len] at e2
      have e0 : n - c.L.length = 0 := by
        have := (List.getElem?_eq_some_iff.mp e1).1
        simp at this; omega
      rw [e0] at e1 e2
      cases e1; cases e2
      exact ⟨h3, vs, h2, h6.mono Sub.refl ml⟩
  · rcases R.newG b o e with z | ⟨z, n⟩
    · exact .inl z
    · refine .inr ⟨z, fun m => ?_⟩
      rcases List.mem_append.mp m with m | m
      · exact n m
      · rw [List.mem_singleton.mp m, h3] at e; cases e
  · rcases set_get e with ⟨rfl, q, hl⟩ | ⟨ne, e⟩
    · cases q
      exact ⟨.ref a, h1, .loc la⟩
    · obtain ⟨v, q1, q2⟩ := R.val j d e
      exact ⟨v, q1, q2.mono Sub.refl ml⟩
  · rcases set_get e with ⟨rfl, q, hl⟩ | ⟨ne, e⟩
    · cases q
    · obtain ⟨b, us, q1, q2, q3, q4, q5, q6⟩ := R.own j es e
      refine ⟨b, us, q1, q2, q3, fun m => ?_, q5, q6.mono Sub.refl ml⟩
      rcases List.mem_append.mp m with m | m
      · exact q4 m
      · rw [List.mem_singleton.mp m] at q1
        exact ne (R.inj j i es ds a e h q1 h1)
  · rcases set_get e1 with ⟨_, q, _⟩ | ⟨_, e1⟩
    · cases q
    · rcases set_get e2 with ⟨_, q, _⟩ | ⟨_, e2⟩
      · cases q
      · exact R.inj j k es fs b e1 e2 e3 e4
theorem drop_get {μ' : Mu} {n : Nat} {ds : List D} (h : μ'.dropLast[n]? = some ds) : μ'[n]? = some ds := by
  rw [List.getElem?_dropLast] at h
  split at h
  · exact h
  · cases h
theorem RRel.less {a : Addr} {μ' : Mu} (h0 : c.H0 a = none) (ha : a ∉ c.L) (r : RRel (c.more a) H G μ') (n : noLocM μ' = true) : RRel c H G μ'.dropLast := by
  have len : c.L.length + 1 = μ'.length := by have := r.len; simpa using this
  refine ⟨r.sub, (List.nodup_append.mp r.nd).1, by rw [List.length_dropLast]; omega, fun k b ds e1 e2 => ?_, fun b o e m => r.keep b o e fun z => ?_, r.gg, fun b o e => ?_⟩
  · have e2' := drop_get e2
    obtain ⟨q1, vs, q2, q3⟩ := r.loc k b ds (by
      have := (List.getElem?_eq_some_iff.mp e1).1
      show (c.L ++ [a])[k]? = some b
      rw [List.getElem?_append_left this]; exact e1) e2'
    refine ⟨q1, vs, q2, q3.other ?_⟩
    unfold noLocM at n
    exact List.all_eq_true.mp n ds (List.mem_of_getElem? e2')
  · rcases List.mem_append.mp z with z | z
    · exact m z
    · rw [List.mem_singleton.mp z, h0] at e; cases e
  · rcases r.newG b o e with z | ⟨z, m⟩
    · exact .inl z
    · exact .inr ⟨z, fun y => m (List.mem_append_left _ y)⟩
/-- THE GHOST'S STEP -/
theorem dss_shr (i : Nat) {rest : List Stmt} {f : FS} (h : ∀ a, DSs X (c.more a) W rest f) : DSs X c W rest (fShr i f) :=
  ⟨fun pins s σ H D I q => by
    obtain ⟨G, env, μ, R, q⟩ := q
    unfold fShr at q
    split at q
    · rename_i ds e
      obtain ⟨a, h0, ha, R'⟩ := R.share e
      refine (h a).run pins s σ H D I ⟨G, _, _, R', ?_⟩
      cases er : f (env.set i (.val (.loc μ.length))) (μ ++ [ds]) with
      | nxt env' μ' => rw [er] at q; exact q.elim
      | brk env' μ' => rw [er] at q; exact q.elim
      | cnt env' μ' => rw [er] at q; exact q.elim
      | bad => rw [er] at q; exact q.elim
      | ret d μ' =>
        rw [er] at q
        dsimp only at q
        split at q
        · rename_i n
          simp only [Bool.and_eq_true] at n
          intro v H' G' r m
          refine q v H' G' (r.less h0 ha n.2) ?_
          cases d with
          | un => exact m
          | val d => exact Dat.other m n.1
          | own es =>
            obtain ⟨b, vs, z1, z2, z3, z4, z5, z6⟩ := m
            exact ⟨b, vs, z1, z2, z3, fun y => z4 (List.mem_append_left _ y), z5, z6.other n.1⟩
        · exact q.elim
      | exc x env' μ' =>
        rw [er] at q
        dsimp only at q
        split at q
        · rename_i n
          simp only [Bool.and_eq_true] at n
          intro σ' H' G' cls d s' F xd
          have un : ∀ (j : Nat) (e : EV), (List.replicate env'.length EV.un)[j]? = some e → e = .un := fun j e z => List.eq_of_mem_replicate (List.mem_of_getElem? z)
          refine q σ' H' G' cls d s' ⟨F.toRRel.less h0 ha n.2, fun j d e => (by cases un j _ e), fun j es e => (by cases un j _ e), fun j k es fs b e => (by cases un j _ e), by rw [List.length_replicate]; exact F.el⟩ ?_
          obtain ⟨x1, fs, x2, x3, x4⟩ := xd
          exact ⟨x1, fs, x2, x3.other n.1, x4⟩
        · exact q.elim
    · exact q.elim⟩
end
end Q

set_option Elab.async false
set_option linter.all false
set_option maxRecDepth 100000
set_option maxHeartbeats 4000000
/-! SJ: a call whose last argument is a new list that the def may change. -/
namespace Q
open PySem PySem.Spec PyProof.Rows L2
abbrev FAl := En → Mu → Res (List D × List D)
/-- data, and a new list behind them -/
def RXl (c : Fx) (H : Hp) : Hp → Hp → List V → List D × List D → Prop := fun H' G' vs p => ∃ ws a us, vs = ws ++ [.ref a] ∧ Dats c.K G' c.L ws p.1 ∧ H' a = some (.lst us) ∧ G' a = none ∧ a ∉ c.L ∧ H a = none ∧ Dats c.K G' c.L us p.2
def tAl (c : Fx) (W : WX) (f : FAl) : TA := fun σ H Q => ∃ G env μ, FRel c σ H G env μ ∧ tG c W σ H G env (RXl c H) (f env μ) Q
abbrev DAl (X : Cx) (c : Fx) (W : WX) (es : List Expr) (f : FAl) : Prop := PA X es (tAl c W f)
def fLast (f : FE) : FAl := fun env μ => (f env μ).bind fun x μ => match x with
  | .val (.lst ds) => .ok ([], ds) μ
  | _ => .bad
def fConsl (fa : FE) (fr : FAl) : FAl := fun env μ => (fa env μ).bind fun x μ => match x with
  | .val d => (fr env μ).bind fun p μ => .ok (d :: p.1, p.2) μ
  | _ => .bad
section
variable {X : Cx} {c : Fx} {W : WX}
theorem dl_last {e : Expr} {f : FE} (h : DN X c W e f) (hs : starEach [e] X.env = (false, eval e X.env) :: starEach [] X.env := by rfl) : DAl X c W [e] (fLast f) := PA.of (pa_cons h pa_nil hs) fun σ H Q q => by
  obtain ⟨G, env, μ, R, q⟩ := q
  refine ⟨G, env, μ, R, (tG.bind q).imp (fun _ _ _ _ h => h) ?_⟩
  rintro x H1 ⟨G1, μ1, dx, x1, R1, ⟨a, vs, ds, rfl, rfl, z1, z2, z3, z4, z5⟩, h1⟩
  exact h1.now Ext.refl R1 ⟨[], a, vs, rfl, .nil, z1, z2, z3, z4, z5⟩
theorem dl_cons {e : Expr} {es : List Expr} {fa : FE} {fr : FAl} (ha : DE X c W e fa) (hr : DAl X c W es fr) (hs : starEach (e :: es) X.env = (false, eval e X.env) :: starEach es X.env := by rfl) : DAl X c W (e :: es) (fConsl fa fr) := PA.of (pa_cons ha hr hs) fun σ H Q q => by
  obtain ⟨G, env, μ, R, q⟩ := q
  refine ⟨G, env, μ, R, (tG.bind q).imp (fun _ _ _ _ h => h) ?_⟩
  rintro x H1 ⟨G1, μ1, dx, x1, R1, d1, h1⟩
  cases dx with
  | own i => exact h1.elim
  | val d =>
    refine ⟨G1, env, μ1, R1, (tG.bind h1).imp (fun _ _ _ _ h => h) ?_⟩
    rintro vs H2 ⟨G2, μ2, p, x2, R2, ⟨ws, a, us, rfl, w, z1, z2, z3, z4, z5⟩, h2⟩
    refine h2.now Ext.refl R2 ⟨x :: ws, a, us, rfl, .cons (Dat.up x2.gg d1) w, z1, z2, z3, ?_, z5⟩
    cases e : H a with
    | none => rfl
    | some u => rw [x1.keep a u e z3] at z4; cases z4
/-- the call: the new list lies in the store while it runs -/
def fFnL (n : Nat) (run : RunF) (fl : FAl) : FE := fun env μ => (fl env μ).bind fun p μ => if p.1.length + 1 = n then match run (p.1 ++ [.loc μ.length]) (μ ++ [p.2]) with
    | .ok (.val d) μ' => if noLoc d && noLocM μ' then .ok (.val d) μ'.dropLast else .bad
    | .exc e μ' => if noLocs (e.fs.map (·.2)) && noLocM μ' then .exc e μ'.dropLast else .bad
    | _ => .bad
  else .bad
theorem RRel.liftL {H G H1 G1 H' G' : Hp} {μ μ1 μ' : Mu} {a : Addr} (R : RRel c H G μ) (x1 : Ext c.L H G H1 G1) (R1 : RRel c H1 G1 μ1) (ha : H a = none) (hl : a ∉ c.L) (r : RRel ⟨c.K, c.L ++ [a], H1, G1, c.C⟩ H' G' μ') (n : noLocM μ' = true) : RRel c H' G' μ'.dropLast ∧ Ext c.L H G H' G' := by
  have len : c.L.length + 1 = μ'.length := by have := r.len; simpa using this
  have x : Ext c.L H G H' G' := ⟨fun b o e m => r.keep b o (x1.keep b o e m) (fun z => by
      rcases List.mem_append.mp z with z | z
      · exact m z
      · rw [List.mem_singleton.mp z, ha] at e; cases e), x1.gg.trans r.gg, fun b o e => by
    rcases r.newG b o e with z | ⟨z, m⟩
    · exact x1.newG b o z
    · refine .inr ⟨?_, fun y => m (List.mem_append_left _ y)⟩
      have z : H1 b = none := z
      cases w : H b with
      | none => rfl
      | some u => rw [x1.keep b u w (fun y => m (List.mem_append_left _ y))] at z; cases z⟩
  refine ⟨⟨r.sub, R.nd, by rw [List.length_dropLast]; omega, fun k b ds e1 e2 => ?_, fun b o e m => x.keep b o (R.keep b o e m) m, R.gg.trans x.gg, fun b o e => ?_⟩, x⟩
  · have e2' := drop_get e2
    obtain ⟨q1, vs, q2, q3⟩ := r.loc k b ds (by
      have := (List.getElem?_eq_some_iff.mp e1).1
      show (c.L ++ [a])[k]? = some b
      rw [List.getElem?_append_left this]; exact e1) e2'
    exact ⟨q1, vs, q2, q3.other (List.all_eq_true.mp n ds (List.mem_of_getElem? e2'))⟩
  · rcases x.newG b o e with z | ⟨z, m⟩
    · exact R.newG b o z
    · refine .inr ⟨?_, m⟩
      cases w : c.H0 b with
      | none => rfl
      | some u => rw [R.keep b u w m] at z; cases z
theorem de_callL {k n : Nat} {f : Addr} {fd : FuncData} {ps : List Str} {run : RunF} {x : Str} {p pos : Pos} {e : Expr} {es : List Expr} {fl : FAl} (G : FnOk X.prog X.w X.K X.mg X.base (L2.CX X.prog X.w) k f fd ps (spD X.K c.C n run)) (hr : Room k X.A) (hm : X.mg x = some (.ref f)) (hk : PySem.W.keepIn X.K (.ref f) = true) (hb : Binds X.K fd ps [])
    (tk : Takes X W) (ha : DAl X c W (e :: es) fl) (hg : Gl X x := by rfl) (hK : X.K = c.K := by rfl) (hdb : (x == ("__debug__" : Str)) = false := by decide) (he : starEach (e :: es) X.env = (false, eval e X.env) :: starEach es X.env := by rfl) (hpl : (backTo pos (starEach es X.env)).any (·.1) = false := by rfl) :
    DE X c W (.Call (.Name x p) (e :: es) [] pos) (fFnL n run fl) := PE.of (pe_callS G hr hg hm hk hb (fun σ => passAt tk σ) ha hdb he hpl) fun σ H Q q => by
  obtain ⟨G, env, μ, R, q⟩ := q
  refine ⟨G, env, μ, R, ?_⟩
  unfold fFnL at q
  cases ef : fl env μ with
  | bad => rw [ef] at q; exact q.elim
  | exc z m => rw [ef] at q; exact q
  | ok p μ1 =>
  obtain ⟨ds, ns⟩ := p
  rw [ef] at q
  rintro vs H1 G1 x1 R1 ⟨ws, a, us, rfl, w, z1, z2, z3, z4, z5⟩
  have q1 : tG c W σ H G env (RX c σ) (if ds.length + 1 = n then match run (ds ++ [.loc μ1.length]) (μ1 ++ [ns]) with
    | .ok (.val d) μ' => if noLoc d && noLocM μ' then .ok (.val d) μ'.dropLast else .bad
    | .exc e μ' => if noLocs (e.fs.map (·.2)) && noLocM μ' then .exc e μ'.dropLast else .bad
    | _ => .bad
  else .bad) Q := q
  dsimp only at w z5
  by_cases hl : ds.length + 1 = n
  · rw [if_pos hl] at q1
    have ml : ∀ (n : Nat) (b : Addr), c.L[n]? = some b → (c.L ++ [a])[n]? = some b := fun n b e => by
      have := (List.getElem?_eq_some_iff.mp e).1
      rw [List.getElem?_append_left this]; exact e
    have la : (c.L ++ [a])[μ1.length]? = some a := by rw [← R1.len, List.getElem?_append_right (Nat.le_refl _), Nat.sub_self]; rfl
    refine ⟨by rw [List.length_append, Dats.length w]; exact hl, ?_⟩
    rw [hK]
    refine ⟨G1, c.L ++ [a], ds ++ [.loc μ1.length], μ1 ++ [ns], ⟨R1.sub, ?_, by simp [R1.len], fun n b es e1 e2 => ?_, fun _ _ h _ => h, Sub.refl, fun _ _ h => .inl h⟩, (w.mono Sub.refl ml).append (.cons (.loc la) .nil), ?_⟩
    · exact List.nodup_append.mpr ⟨R1.nd, by simp, fun x hx y hy z => z3 (by rw [List.mem_singleton.mp hy] at z; exact z ▸ hx)⟩
    · rcases Nat.lt_or_ge n c.L.length with q | q
      · have e1 : (c.L ++ [a])[n]? = some b := e1
        rw [List.getElem?_append_left q] at e1
        rw [List.getElem?_append_left (by rw [← R1.len]; exact q)] at e2
        obtain ⟨q1, us, q2, q3⟩ := R1.loc n b es e1 e2
        exact ⟨q1, us, q2, q3.mono Sub.refl ml⟩
      · have e1 : (c.L ++ [a])[n]? = some b := e1
        rw [List.getElem?_append_right q] at e1
        rw [List.getElem?_append_right (by rw [← R1.len]; exact q), ← R1.len] at e2
        have e0 : n - c.L.length = 0 := by
          have := (List.getElem?_eq_some_iff.mp e1).1
          simp at this; omega
        rw [e0] at e1 e2
        cases e1; cases e2
        exact ⟨z2, us, z1, z5.mono Sub.refl ml⟩
    · cases er : run (ds ++ [.loc μ1.length]) (μ1 ++ [ns]) with
      | bad => rw [er] at q1; exact q1.elim
      | exc z m =>
        rw [er] at q1
        dsimp only at q1
        split at q1
        · rename_i nl
          simp only [Bool.and_eq_true] at nl
          intro cls dd H' G' r xd
          obtain ⟨r', xx⟩ := R.toRRel.liftL x1 R1.toRRel z4 z3 r nl.2
          obtain ⟨y1, fs, y2, y3, y4⟩ := xd
          exact q1 cls dd H' G' xx (R.back xx r') ⟨y1, fs, y2, y3.other nl.1, y4⟩
        · exact q1.elim
      | ok d m =>
        rw [er] at q1
        cases d with
        | un => exact q1.elim
        | own es => exact q1.elim
        | val d =>
          dsimp only at q1
          split at q1
          · rename_i nl
            simp only [Bool.and_eq_true] at nl
            intro v H' G' r mm
            obtain ⟨r', xx⟩ := R.toRRel.liftL x1 R1.toRRel z4 z3 r nl.2
            have mm : Dat c.K G' (c.L ++ [a]) v d := mm
            exact q1.now xx (R.back xx r') (show DatX c G' σ v (.val d) from mm.other nl.1)
          · exact q1.elim
  · rw [if_neg hl] at q1; exact q1.elim
theorem de_calL {k n : Nat} {x : Str} {st : Stmt} {ps : List Str} {run : RunF} {p pos : Pos} {e : Expr} {es : List Expr} {fl : FAl} (h : Cal X.prog X.w X.K X.mg X.base c.C k x st ps n run) (hr : Room k X.A) (tk : Takes X W) (ha : DAl X c W (e :: es) fl) (hg : Gl X x := by rfl) (hK : X.K = c.K := by rfl) (hdb : (x == ("__debug__" : Str)) = false := by decide) (he : starEach (e :: es) X.env = (false, eval e X.env) :: starEach es X.env := by rfl) (hpl : (backTo pos (starEach es X.env)).any (·.1) = false := by rfl) :
    DE X c W (.Call (.Name x p) (e :: es) [] pos) (fFnL n run fl) := by
  obtain ⟨f, fd, _, G, hm, hk, hb⟩ := h.ex
  exact de_callL G hr hm hk hb tk ha hg hK hdb he hpl
end
end Q

set_option Elab.async false
set_option linter.all false
set_option maxRecDepth 100000
set_option maxHeartbeats 4000000
/-! SK: a list of the frame's own is read as data by one expression, and is the frame's own again after it. -/
namespace Q
open PySem PySem.Spec PyProof.Rows L2
mutual
/-- data with no list in it -/
def noLst : D → Bool
  | .lst _ => false
  | .frz _ => false
  | .tup ds => noLsts ds
  | _ => true
def noLsts : List D → Bool
  | [] => true
  | d :: ds => noLst d && noLsts ds
end
/-- what of G2 came in while an expression ran, without its lists -/
def noLg (G G2 : Hp) : Hp := fun b => match G b with
  | some o => some o
  | none => match G2 b with
    | some (.lst _) => none
    | r => r
theorem noLg_sub (G G2 : Hp) : Sub G (noLg G G2) := fun b o e => by simp only [noLg, e]
theorem noLg_of {G G2 : Hp} (s : Sub G G2) {b : Addr} {o : HO} (e : noLg G G2 b = some o) : G2 b = some o := by
  unfold noLg at e
  cases h : G b with
  | some u => rw [h] at e; cases e; exact s _ _ h
  | none =>
    rw [h] at e
    cases h2 : G2 b with
    | none => rw [h2] at e; cases e
    | some u => rw [h2] at e; cases u <;> first | exact e | cases e
theorem noLg_no {G G2 : Hp} {b : Addr} (e : G2 b = none) (s : Sub G G2) : noLg G G2 b = none := by
  cases h : noLg G G2 b with
  | none => rfl
  | some o => rw [noLg_of s h] at e; cases e
theorem noLg_in {G G2 : Hp} (s : Sub G G2) {b : Addr} {o : HO} (e : G2 b = some o) (n : ∀ vs, o ≠ .lst vs) : noLg G G2 b = some o := by
  unfold noLg
  cases h : G b with
  | some u => have := s _ _ h; rw [e] at this; cases this; rfl
  | none =>
    dsimp only
    rw [e]
    cases o with
    | lst vs => exact absurd rfl (n vs)
    | _ => rfl
theorem noLg_tup {K : PySem.W.Frag} {G G2 : Hp} (s : Sub G G2) {a : Addr} {vs : List V} (h : SqT K G2 a vs) : SqT K (noLg G G2) a vs := by
  rcases h with (h | ⟨o, h⟩) | h
  · exact .inl (.inl (noLg_in s h fun vs z => by cases z))
  · exact .inl (.inr ⟨o, noLg_in s h fun vs z => by cases z⟩)
  · exact .inr h
section
variable {K : PySem.W.Frag} {G G2 : Hp} {L : List Addr}
mutual
theorem Dat.anyG (s : Sub G G2) : ∀ {v : V} {d : D}, Dat K G2 L v d → noLst d = true → Dat K (noLg G G2) L v d
  | _, _, .non, _ => .non
  | _, _, .bl b, _ => .bl b
  | _, _, .int i, _ => .int i
  | _, _, .str x, _ => .str x
  | _, _, .ty n, _ => .ty n
  | _, _, .tup h t, n => .tup (noLg_tup s h) (Dats.anyG s t (by simpa [noLst] using n))
  | _, _, .lst h t, n => by simp [noLst] at n
  | _, _, .frz h t, n => by simp [noLst] at n
  | _, _, .loc h, _ => .loc h
theorem Dats.anyG (s : Sub G G2) : ∀ {vs : List V} {ds : List D}, Dats K G2 L vs ds → noLsts ds = true → Dats K (noLg G G2) L vs ds
  | _, _, .nil, _ => .nil
  | _, _, .cons h t, n => by
    simp only [noLsts, Bool.and_eq_true] at n
    exact .cons (Dat.anyG s h n.1) (Dats.anyG s t n.2)
end
end
def noLstM (μ : Mu) : Bool := μ.all noLsts
/-- slot i's own list is data while f runs -/
def fFrE (i : Nat) (f : FE) : FE := fun env μ => match env[i]? with
  | some (.own ds) => match f (env.set i (.val (.lst ds))) μ with
    | .ok (.val d) μ' => if noLst d && noLstM μ' then .ok (.val d) μ' else .bad
    | _ => .bad
  | _ => .bad
def fFrN (i : Nat) (f : FE) : FE := fun env μ => match env[i]? with
  | some (.own ds) => match f (env.set i (.val (.lst ds))) μ with
    | .ok (.val (.lst es)) μ' => if noLsts es && noLstM μ' then .ok (.val (.lst es)) μ' else .bad
    | _ => .bad
  | _ => .bad
section
variable {X : Cx} {c : Fx} {W : WX} {σ : Sl} {H G H2 G1 G2 : Hp} {env env1 : En} {μ μ2 : Mu}
theorem FRel.frzSlot2 {σ : Sl} {H G : Hp} {env : En} {μ : Mu} (R : FRel c σ H G env μ) {i : Nat} {ds : List D} (e : env[i]? = some (.own ds)) : ∃ G', Sub G G' ∧ (∀ b o, G' b = some o → G b = some o ∨ ∃ vs, o = .lst vs) ∧ FRel c σ H G' (env.set i (.val (.lst ds))) μ := by
  obtain ⟨a, vs, h1, h2, h3, h4, h5, h6⟩ := R.own i ds e
  have g : Sub G (upd G a (.lst vs)) := sub_upd h3
  refine ⟨upd G a (.lst vs), g, fun b o q => by
    by_cases h : b = a
    · subst h; rw [upd_same] at q; cases q; exact .inr ⟨_, rfl⟩
    · rw [upd_ne h] at q; exact .inl q, ⟨⟨fun b o q => ?_, R.nd, R.len, fun n b es e1 e2 => ?_, R.keep, R.gg.trans g, fun b o q => ?_⟩, fun j d q => ?_, fun j es q => ?_, fun j k es fs b q1 q2 q3 q4 => ?_, by rw [List.length_set]; exact R.el⟩⟩
  · by_cases h : b = a
    · subst h; rw [upd_same] at q; rw [h2]; exact q
    · rw [upd_ne h] at q; exact R.sub b o q
  · obtain ⟨q1, ws, q2, q3⟩ := R.loc n b es e1 e2
    have hb : b ≠ a := fun z => h4 (z ▸ List.mem_of_getElem? e1)
    exact ⟨by rw [upd_ne hb]; exact q1, ws, q2, q3.up g⟩
  · by_cases h : b = a
    · subst h; exact .inr ⟨h5, h4⟩
    · rw [upd_ne h] at q; exact R.newG b o q
  · rcases set_get q with ⟨rfl, q', _⟩ | ⟨ne, q⟩
    · cases q'
      exact ⟨_, h1, Dat.lst upd_same (h6.up g)⟩
    · obtain ⟨v, q1, q2⟩ := R.val j d q
      exact ⟨v, q1, q2.up g⟩
  · rcases set_get q with ⟨rfl, q', _⟩ | ⟨ne, q⟩
    · cases q'
    · obtain ⟨b, ws, q1, q2, q3, q4, q5, q6⟩ := R.own j es q
      have hb : b ≠ a := fun z => ne (R.inj j i es ds a q e (z ▸ q1) h1)
      exact ⟨b, ws, q1, q2, by rw [upd_ne hb]; exact q3, q4, q5, q6.up g⟩
  · rcases set_get q1 with ⟨_, q', _⟩ | ⟨_, q1⟩
    · cases q'
    · rcases set_get q2 with ⟨_, q', _⟩ | ⟨_, q2⟩
      · cases q'
      · exact R.inj j k es fs b q1 q2 q3 q4
theorem FRel.thaw (R : FRel c σ H G env μ) (g : Sub G G1) (gl : ∀ b o, G1 b = some o → G b = some o ∨ ∃ vs, o = .lst vs) (x : Ext c.L H G1 H2 G2) (R2 : FRel c σ H2 G2 env1 μ2) (n : noLstM μ2 = true) : FRel c σ H2 (noLg G G2) env μ2 ∧ Ext c.L H G H2 (noLg G G2) := by
  have s : Sub G G2 := g.trans x.gg
  refine ⟨⟨⟨fun b o q => R2.sub b o (noLg_of s q), R.nd, R2.len, fun k b es e1 e2 => ?_, R2.keep, R.gg.trans (noLg_sub G G2), fun b o q => R2.newG b o (noLg_of s q)⟩, fun j d e => ?_, fun j es e => ?_, R.inj, R.el⟩, ⟨x.keep, noLg_sub G G2, fun b o q => ?_⟩⟩
  · obtain ⟨q1, us, q2, q3⟩ := R2.loc k b es e1 e2
    exact ⟨noLg_no q1 s, us, q2, Dats.anyG s q3 (List.all_eq_true.mp n es (List.mem_of_getElem? e2))⟩
  · obtain ⟨v, q1, q2⟩ := R.val j d e
    exact ⟨v, q1, q2.up (noLg_sub G G2)⟩
  · obtain ⟨b, us, q1, q2, q3, q4, q5, q6⟩ := R.own j es e
    refine ⟨b, us, q1, x.keep b _ q2 q4, ?_, q4, q5, q6.up (noLg_sub G G2)⟩
    have hk := x.keep b _ q2 q4
    unfold noLg
    rw [q3]
    dsimp only
    cases h2 : G2 b with
    | none => rfl
    | some o => have := R2.sub b o h2; rw [hk] at this; cases this; rfl
  · rcases x.newG b o (noLg_of s q) with z | z
    · rcases gl b o z with z | ⟨vs, rfl⟩
      · exact .inl z
      · cases h : G b with
        | some u => have := noLg_sub G G2 b u h; rw [q] at this; exact .inl this.symm
        | none =>
          unfold noLg at q
          rw [h] at q
          dsimp only at q
          cases h2 : G2 b with
          | none => rw [h2] at q; cases q
          | some u => rw [h2] at q; cases u <;> cases q
    · exact .inr z
theorem de_frE (i : Nat) {e : Expr} {f : FE} (h : DE X c W e f) : DE X c W e (fFrE i f) := PE.of h fun σ H Q q => by
  obtain ⟨G, env, μ, R, q⟩ := q
  unfold fFrE at q
  split at q
  · rename_i ds e
    obtain ⟨G', g, gl, R'⟩ := R.frzSlot2 e
    refine ⟨G', _, μ, R', ?_⟩
    split at q
    · rename_i d μ' ef
      rw [ef]
      split at q
      · rename_i n
        simp only [Bool.and_eq_true] at n
        intro v H2 G2 x R2 dd
        obtain ⟨a, b⟩ := R.thaw g gl x R2 n.2
        exact q v H2 _ b a (Dat.anyG (g.trans x.gg) dd n.1)
      · exact q.elim
    · exact q.elim
  · exact q.elim
theorem dn_frN (i : Nat) {e : Expr} {f : FE} (h : DN X c W e f) : DN X c W e (fFrN i f) := PE.of h fun σ H Q q => by
  obtain ⟨G, env, μ, R, q⟩ := q
  unfold fFrN at q
  split at q
  · rename_i ds e
    obtain ⟨G', g, gl, R'⟩ := R.frzSlot2 e
    refine ⟨G', _, μ, R', ?_⟩
    split at q
    · rename_i es μ' ef
      rw [ef]
      split at q
      · rename_i n
        simp only [Bool.and_eq_true] at n
        rintro v H2 G2 x R2 ⟨a, vs, ds', e1, e2, z1, z2, z3, z4, z5⟩
        cases e2
        obtain ⟨p, b⟩ := R.thaw g gl x R2 n.2
        exact q v H2 _ b p ⟨a, vs, _, e1, rfl, z1, noLg_no z2 (g.trans x.gg), z3, z4, Dats.anyG (g.trans x.gg) z5 n.1⟩
      · exact q.elim
    · exact q.elim
  · exact q.elim
end
end Q

set_option Elab.async false
set_option linter.all false
set_option maxRecDepth 100000
set_option maxHeartbeats 4000000
namespace Kx
open PySem PySem.Spec PyProof.Rows L2 Q
abbrev KK : Nat := 60
abbrev g_LONGEST : D := .int 8
abbrev g_LONGEST_FORM : D := .int 4
abbrev g_OPEN : D := .tup []
abbrev g_SIGNS : D := .str "abcdefghijklmnopqrstuvwxyz"
/-- is_name -/
def b0 (r : Nat → RunF) : FS := (fSeq (fIfS (fOr (fNot (fTT (fIsi ["str"] (fVar 0)))) (fNot (fTB (fCh (cmpI .LtE) (cmpI .LtE) (fC (.int 1)) (fCall gLen (fConsr (fVar 0) fNilr)) (fC g_LONGEST))))) (fRet (fMv (fC (.bl false)))) fNext)
    (fRet (fMv (fCall gAll (fConsr (fLc (fAny (fVar 0)) (.nm 1) fYes (fB (gIn false) (fVar 1) (fC g_SIGNS)) [1]) fNilr)))))
/-- tupled -/
def b1 (r : Nat → RunF) : FS := (fRet (fMv (fIf (fTT (fIsi ["list", "tuple"] (fVar 0))) (fCall gTuple (fConsr (fLc (fAny (fVar 0)) (.nm 1) fYes (fFn 1 (r 1) (fCons (fVar 1) fNil)) [1]) fNilr)) (fVar 0))))
/-- is_form -/
def b2 (r : Nat → RunF) : FS := (fSeq (fIfS (fNot (fTT (fIsi ["tuple"] (fVar 0)))) (fRet (fMv (fC (.bl false)))) fNext)
    (fSeq (fIfS (fTB (fB gEq (fCall gLen (fConsr (fVar 0) fNilr)) (fC (.int 0)))) (fRet (fMv (fC (.bl true)))) fNext)
    (fSeq (fIfS (fOr (fTB (fB gGt (fCall gLen (fConsr (fVar 0) fNilr)) (fC g_LONGEST_FORM))) (fNot (fTT (fFn 1 (r 0) (fCons (fB gIx (fVar 0) (fC (.int 0))) fNil))))) (fRet (fMv (fC (.bl false)))) fNext)
    (fRet (fMv (fCall gAll (fConsr (fLc (fAny (fSl gSl (fVar 0) (fSomeO (fC (.int 1))) fNoO)) (.nm 1) fYes (fFn 1 (r 2) (fCons (fVar 1) fNil)) [1]) fNilr)))))))
/-- unlike_signs -/
def b3 (r : Nat → RunF) : FS := (fRet (fMv (fOrV (fB gNe (fCall gLen (fConsr (fVar 0) fNilr)) (fCall gLen (fConsr (fVar 1) fNilr))) (fB gNe (fB gIx (fVar 0) (fC (.int 0))) (fB gIx (fVar 1) (fC (.int 0)))))))
/-- lies_in -/
def b4 (r : Nat → RunF) : FS := (fSeq (fIfS (fTB (fB gEq (fCall gLen (fConsr (fVar 0) fNilr)) (fC (.int 0)))) (fRet (fMv (fC (.bl true)))) fNext)
    (fSeq (fIfS (fOr (fTB (fB gEq (fCall gLen (fConsr (fVar 1) fNilr)) (fC (.int 0)))) (fTT (fFn 2 (r 3) (fCons (fVar 0) (fCons (fVar 1) fNil))))) (fRet (fMv (fC (.bl false)))) fNext)
    (fRet (fMv (fCall gAll (fConsr (fLc (fZp (fSl gSl (fVar 0) (fSomeO (fC (.int 1))) fNoO) (fSl gSl (fVar 1) (fSomeO (fC (.int 1))) fNoO)) (.tp [(.nm 2), (.nm 3)]) fYes (fFn 2 (r 4) (fCons (fVar 2) (fCons (fVar 3) fNil))) [2, 3]) fNilr))))))
/-- do_agree -/
def b5 (r : Nat → RunF) : FS := (fSeq (fIfS (fOr (fTB (fB gEq (fCall gLen (fConsr (fVar 0) fNilr)) (fC (.int 0)))) (fTB (fB gEq (fCall gLen (fConsr (fVar 1) fNilr)) (fC (.int 0))))) (fRet (fMv (fC (.bl true)))) fNext)
    (fSeq (fIfS (fTT (fFn 2 (r 3) (fCons (fVar 0) (fCons (fVar 1) fNil)))) (fRet (fMv (fC (.bl false)))) fNext)
    (fRet (fMv (fCall gAll (fConsr (fLc (fZp (fSl gSl (fVar 0) (fSomeO (fC (.int 1))) fNoO) (fSl gSl (fVar 1) (fSomeO (fC (.int 1))) fNoO)) (.tp [(.nm 2), (.nm 3)]) fYes (fFn 2 (r 5) (fCons (fVar 2) (fCons (fVar 3) fNil))) [2, 3]) fNilr))))))
/-- odds_of -/
def b6 (r : Nat → RunF) : FS := (fSeq (fIfS (fOr (fTB (fB gEq (fCall gLen (fConsr (fVar 0) fNilr)) (fC (.int 0)))) (fTB (fB gEq (fCall gLen (fConsr (fVar 1) fNilr)) (fC (.int 0))))) (fRet (fMv (fC .non))) fNext)
    (fSeq (fIfS (fTT (fFn 2 (r 3) (fCons (fVar 0) (fCons (fVar 1) fNil)))) (fRet (fMv (fTup fNil))) fNext)
    (fSeq (fFor (fEnz (fSl gSl (fVar 0) (fSomeO (fC (.int 1))) fNoO) (fSl gSl (fVar 1) (fSomeO (fC (.int 1))) fNoO)) (.tp [(.nm 2), (.tp [(.nm 4), (.nm 5)])]) (fSeq (fSet 3 (fMv (fFn 2 (r 6) (fCons (fVar 4) (fCons (fVar 5) fNil)))))
    (fIfS (fTB (fB gNotN (fVar 3) (fC .non))) (fRet (fMv (fB gAdd (fTup (fCons (fVar 2) fNil)) (fVar 3)))) fNext)))
    (fRet (fMv (fC .non))))))
/-- join_of -/
def b7 (r : Nat → RunF) : FS := (fSeq (fIfS (fOr (fTB (fB gEq (fCall gLen (fConsr (fVar 0) fNilr)) (fC (.int 0)))) (fTB (fB gEq (fCall gLen (fConsr (fVar 1) fNilr)) (fC (.int 0))))) (fRet (fMv (fIf (fTB (fB gEq (fCall gLen (fConsr (fVar 0) fNilr)) (fC (.int 0)))) (fVar 1) (fVar 0)))) fNext)
    (fRet (fMv (fB gAdd (fTup (fCons (fB gIx (fVar 0) (fC (.int 0))) fNil)) (fCall gTuple (fConsr (fLc (fZp (fSl gSl (fVar 0) (fSomeO (fC (.int 1))) fNoO) (fSl gSl (fVar 1) (fSomeO (fC (.int 1))) fNoO)) (.tp [(.nm 2), (.nm 3)]) fYes (fFn 2 (r 7) (fCons (fVar 2) (fCons (fVar 3) fNil))) [2, 3]) fNilr))))))
/-- joined -/
def b8 (r : Nat → RunF) : FS := (fSeq (fIfS (fNot (fTT (fFn 2 (r 5) (fCons (fVar 0) (fCons (fVar 1) fNil))))) (fRaise 0) fNext)
    (fRet (fMv (fFn 2 (r 7) (fCons (fFn 1 (r 1) (fCons (fVar 0) fNil)) (fCons (fFn 1 (r 1) (fCons (fVar 1) fNil)) fNil))))))
/-- joined_all -/
def b9 (r : Nat → RunF) : FS := (fSeq (fSet 1 (fMv (fTup fNil)))
    (fSeq (fFor (fAny (fVar 0)) (.nm 2) (fSet 1 (fMv (fFn 2 (r 8) (fCons (fVar 1) (fCons (fVar 2) fNil))))))
    (fRet (fMv (fVar 1)))))
/-- met_form -/
def b10 (r : Nat → RunF) : FS := (fSeq (fIfS (fOr (fTB (fB gEq (fCall gLen (fConsr (fVar 0) fNilr)) (fC (.int 0)))) (fOr (fTB (fB gEq (fCall gLen (fConsr (fVar 1) fNilr)) (fC (.int 0)))) (fTT (fFn 2 (r 3) (fCons (fVar 0) (fCons (fVar 1) fNil)))))) (fRet (fMv (fTup fNil))) fNext)
    (fRet (fMv (fB gAdd (fTup (fCons (fB gIx (fVar 0) (fC (.int 0))) fNil)) (fCall gTuple (fConsr (fLc (fZp (fSl gSl (fVar 0) (fSomeO (fC (.int 1))) fNoO) (fSl gSl (fVar 1) (fSomeO (fC (.int 1))) fNoO)) (.tp [(.nm 2), (.nm 3)]) fYes (fFn 2 (r 10) (fCons (fVar 2) (fCons (fVar 3) fNil))) [2, 3]) fNilr))))))
/-- _law_box -/
def b11 (r : Nat → RunF) : FS := (fSeq (fSet 2 (fMv (fIf (fTB (fB gLt (fVar 1) (fCall gLen (fConsr (fVar 0) fNilr)))) (fB gIx (fVar 0) (fVar 1)) (fC (.int 0)))))
    (fRet (fMo (fLst (fCons (fB gMul (fCall gAbs (fConsr (fVar 2) fNilr)) (fCall gInt (fConsr (fB gGe (fCall gAbs (fConsr (fVar 2) fNilr)) (fB gPow (fC (.int 10)) (fC (.int 18)))) fNilr))) (fCons (fB gAdd (fB gAdd (fB gMod (fCall gInt (fConsr (fVar 2) fNilr)) (fC (.int 2305843009213693951))) (fB gMul (fC (.int 39373)) (fVar 1))) (fC (.int 1943001))) (fCons (fC (.int 0)) fNil)))))))
/-- _law_take -/
def b12 (r : Nat → RunF) : FS := (fSeq (fIfS (fTB (fB gGt (fB gIx (fVar 0) (fC (.int 0))) (fC (.int 0)))) (fSeq (fSet 2 (fMv (fB gMod (fCall gInt (fConsr (fB gIx (fVar 0) (fC (.int 0))) fNilr)) (fVar 1))))
    (fSeq (fSetIx 0 (fB gDiv (fB gIx (fVar 0) (fC (.int 0))) (fVar 1)) (fC (.int 0)))
    (fRet (fMv (fVar 2))))) fNext)
    (fSeq (fSetIx 0 (fB gAdd (fB gIx (fVar 0) (fC (.int 2))) (fC (.int 1))) (fC (.int 2)))
    (fSeq (fSet 3 (fMv (fB gMod (fCall gInt (fConsr (fB gMul (fB gAdd (fB gIx (fVar 0) (fC (.int 1))) (fB gMul (fC (.int 48271)) (fB gIx (fVar 0) (fC (.int 2))))) (fB gAdd (fC (.int 39373)) (fB gIx (fVar 0) (fC (.int 2))))) fNilr)) (fC (.int 2147483647)))))
    (fSeq (fSet 4 (fMv (fB gAdd (fB gMod (fCall gInt (fConsr (fVar 3) fNilr)) (fC (.int 40009))) (fC (.int 7)))))
    (fSeq (fSet 5 (fMv (fB gMod (fCall gInt (fConsr (fB gMul (fB gAdd (fB gAdd (fVar 3) (fB gIx (fVar 0) (fC (.int 2)))) (fB gDiv (fB gIx (fVar 0) (fC (.int 1))) (fC (.int 1000003)))) (fVar 4)) fNilr)) (fC (.int 2147483629)))))
    (fRet (fMv (fB gMod (fCall gInt (fConsr (fB gDiv (fB gMod (fCall gInt (fConsr (fB gAdd (fB gMul (fVar 5) (fC (.int 48271))) (fVar 3)) fNilr)) (fC (.int 2147483587))) (fC (.int 64))) fNilr)) (fVar 1)))))))))
/-- _law_cells -/
def b13 (r : Nat → RunF) : FS := (fSeq (fSet 2 (fMo (fOrN (fCall gList (fConsr (fSl gSl (fVar 0) fNoO (fSomeO (fVar 1))) fNilr)) (fLst (fCons (fC (.int 0)) fNil)))))
    (fSeq (fFor (fEn (fSl gSl (fVar 0) (fSomeO (fVar 1)) (fSomeO (fC (.int 63))))) (.tp [(.nm 3), (.nm 4)]) (fSeq (fSet 5 (fMv (fB gMod (fCall gInt (fConsr (fVar 3) fNilr)) (fVar 1))))
    (fSetIx 2 (fB gAdd (fB gIx (fVar 2) (fVar 5)) (fB gMul (fVar 4) (fB gAdd (fVar 3) (fC (.int 2))))) (fVar 5))))
    (fRetO 2)))
/-- _law_of -/
def b14 (r : Nat → RunF) : FS := (fRet (fMv (fB gIx (fVar 1) (fFn 2 (r 12) (fCons (fVar 0) (fCons (fCall gLen (fConsr (fVar 1) fNilr)) fNil))))))
/-- _law_pick -/
def b15 (r : Nat → RunF) : FS := (fSeq (fPar 3 4 (fMo (fCall gList (fConsr (fVar 1) fNilr))) (fMo (fLst fNil)))
    (fSeq (fFor (fRng1 (fCall gMin2 (fConsr (fCall gInt (fConsr (fVar 2) fNilr)) (fConsr (fCall gLen (fConsr (fVar 3) fNilr)) fNilr)))) (.nm 5) (fAppPop 4 3 (fFn 2 (r 12) (fCons (fVar 0) (fCons (fCall gLen (fConsr (fVar 3) fNilr)) fNil)))))
    (fRetO 4)))
/-- _law_lists -/
def b16 (r : Nat → RunF) : FS := (fRet (fMv (fIf (fTT (fIsi ["list", "tuple"] (fVar 0))) (fLc (fAny (fVar 0)) (.nm 1) fYes (fFn 1 (r 16) (fCons (fVar 1) fNil)) [1]) (fVar 0))))
/-- _law_same -/
def b17 (r : Nat → RunF) : FS := (fSeq (fIfS (fTT (fIsi ["list", "tuple"] (fVar 1))) (fSeq (fIfS (fOr (fTB (fB gNe (fIsi ["list"] (fVar 0)) (fIsi ["list"] (fVar 1)))) (fTB (fB gNe (fIsi ["tuple"] (fVar 0)) (fIsi ["tuple"] (fVar 1))))) (fRet (fMv (fC (.bl false)))) fNext)
    (fRet (fMv (fAndV (fB gEq (fCall gLen (fConsr (fVar 0) fNilr)) (fCall gLen (fConsr (fVar 1) fNilr))) (fCall gAll (fConsr (fLc (fZp (fVar 0) (fVar 1)) (.tp [(.nm 2), (.nm 3)]) fYes (fFn 2 (r 17) (fCons (fVar 2) (fCons (fVar 3) fNil))) [2, 3]) fNilr)))))) fNext)
    (fSeq (fIfS (fOr (fTB (fB gIsN (fVar 1) (fC .non))) (fTT (fIsi ["bool", "str"] (fVar 1)))) (fRet (fMv (fAndV (fB gEq (fVar 0) (fVar 1)) (fAndV (fB gEq (fIsi ["bool"] (fVar 0)) (fIsi ["bool"] (fVar 1))) (fB gEq (fB gIsN (fVar 0) (fC .non)) (fB gIsN (fVar 1) (fC .non))))))) fNext)
    (fRet (fMv (fAndV (fIsi ["int"] (fVar 0)) (fAndV (fNotV (fIsi ["bool"] (fVar 0))) (fB gEq (fVar 0) (fVar 1))))))))
/-- _law_spots -/
def b18 (r : Nat → RunF) : FS := (fSeq (fSet 1 (fMv (fLst (fCons (fTup fNil) fNil))))
    (fSeq (fFor (fEn (fSl gSl (fVar 0) (fSomeO (fC (.int 1))) fNoO)) (.tp [(.nm 2), (.nm 3)]) (fSet 1 (fMv (fB gCat (fVar 1) (fLc (fAny (fFn 1 (r 18) (fCons (fVar 3) fNil))) (.nm 4) fYes (fB gAdd (fTup (fCons (fVar 2) fNil)) (fVar 4)) [4])))))
    (fRet (fMv (fVar 1)))))
/-- _law_at -/
def b19 (r : Nat → RunF) : FS := (fSeq (fSet 2 (fMv (fVar 0)))
    (fSeq (fFor (fAny (fVar 1)) (.nm 3) (fSet 2 (fMv (fB gIx (fVar 2) (fB gAdd (fVar 3) (fC (.int 1)))))))
    (fRet (fMv (fVar 2)))))
/-- _law_put -/
def b20 (r : Nat → RunF) : FS := (fSeq (fIfS (fTB (fB gEq (fVar 1) (fTup fNil))) (fRet (fMv (fVar 2))) fNext)
    (fSeq (fSet 3 (fMv (fB gAdd (fB gIx (fVar 1) (fC (.int 0))) (fC (.int 1)))))
    (fRet (fMv (fB gAdd (fB gAdd (fSl gSl (fVar 0) fNoO (fSomeO (fVar 3))) (fTup (fCons (fFn 3 (r 20) (fCons (fB gIx (fVar 0) (fVar 3)) (fCons (fSl gSl (fVar 1) (fSomeO (fC (.int 1))) fNoO) (fCons (fVar 2) fNil)))) fNil))) (fSl gSl (fVar 0) (fSomeO (fB gAdd (fVar 3) (fC (.int 1)))) fNoO))))))
/-- _law_leaf -/
def b21 (r : Nat → RunF) : FS := (fSeq (fSet 4 (fMv (fLc (fAny (fVar 1)) (.nm 5) (fAnd (fTB (fB gLt (fB gIx (fVar 5) (fC (.int 1))) (fVar 2))) (fOr (fTB (fB gGt (fVar 3) (fC (.int 0)))) (fTB (fB gEq (fB gIx (fVar 5) (fC (.int 1))) (fC (.int 0)))))) (fVar 5) [5])))
    (fSeq (fIfS (fOr (fTB (fB gEq (fFn 2 (r 12) (fCons (fVar 0) (fCons (fC (.int 5)) fNil))) (fC (.int 0)))) (fTB (fB gEq (fVar 4) (fLst fNil)))) (fRet (fMv (fTup fNil))) fNext)
    (fSeq (fAsg (.tp [(.nm 6), (.nm 7)]) (fFn 2 (r 14) (fCons (fVar 0) (fCons (fVar 4) fNil))))
    (fSeq (fPar 8 9 (fMv (fB gSub (fVar 2) (fC (.int 1)))) (fMo (fLst fNil)))
    (fSeq (fFor (fRng1 (fVar 7)) (.nm 10) (fSeq (fSet 11 (fMv (fB gAdd (fC (.int 1)) (fFn 2 (r 12) (fCons (fVar 0) (fCons (fB gSub (fVar 8) (fB gSub (fB gSub (fVar 7) (fVar 10)) (fC (.int 1)))) fNil))))))
    (fSeq (fApp 9 (fFn 4 (r 21) (fCons (fVar 0) (fCons (fVar 1) (fCons (fVar 11) (fCons (fB gSub (fVar 3) (fC (.int 1))) fNil))))))
    (fSet 8 (fMv (fB gSub (fVar 8) (fVar 11)))))))
    (fRet (fMv (fB gAdd (fTup (fCons (fVar 6) fNil)) (fCall gTuple (fConsr (fVar 9) fNilr))))))))))
/-- _law_great -/
def b22 (r : Nat → RunF) : FS := (fSeq (fSet 4 (fMv (fOrN (fLc (fAny (fVar 1)) (.nm 5) (fTB (fCh (cmpI .Lt) (cmpI .Lt) (fC (.int 0)) (fB gIx (fVar 5) (fC (.int 1))) (fVar 2))) (fVar 5) [5]) (fLst (fCons (fTup (fCons (fC (.str "g")) (fCons (fC (.int 1)) fNil))) fNil)))))
    (fSeq (fAsg (.tp [(.nm 6), (.nm 7)]) (fFn 2 (r 14) (fCons (fVar 0) (fCons (fVar 4) fNil))))
    (fSeq (fSet 8 (fMv (fCall gMax2 (fConsr (fC (.int 1)) (fConsr (fB gDiv (fB gSub (fVar 2) (fC (.int 1))) (fVar 7)) fNilr)))))
    (fRet (fMv (fB gAdd (fTup (fCons (fVar 6) fNil)) (fCall gTuple (fConsr (fLc (fRng1 (fVar 7)) (.nm 9) fYes (fFn 4 (r 21) (fCons (fVar 0) (fCons (fVar 1) (fCons (fVar 8) (fCons (fB gSub (fVar 3) (fC (.int 1))) fNil))))) [9]) fNilr))))))))
/-- _law_own_signs -/
def b23 (r : Nat → RunF) : FS := (fRet (fMo (fLst (fCons (fTup (fCons (fC (.str "a")) (fCons (fC (.int 0)) fNil))) (fCons (fTup (fCons (fC (.str "b")) (fCons (fC (.int 0)) fNil))) (fCons (fTup (fCons (fC (.str "f")) (fCons (fC (.int 0)) fNil))) (fCons (fTup (fCons (fC (.str "f")) (fCons (fC (.int 1)) fNil))) (fCons (fTup (fCons (fC (.str "f")) (fCons (fC (.int 2)) fNil))) (fCons (fTup (fCons (fC (.str "g")) (fCons (fC (.int 1)) fNil))) (fCons (fTup (fCons (fC (.str "k")) (fCons (fC (.int 3)) fNil))) (fCons (fTup (fCons (fC (.str "end")) (fCons (fC (.int 0)) fNil))) (fCons (fTup (fCons (fC (.str "mark")) (fCons (fC (.int 0)) fNil))) fNil))))))))))))
/-- _law_map -/
def b24 (r : Nat → RunF) : FS := (fSeq (fSet 1 (fMo (fLst fNil)))
    (fSeq (fFor (fAny (fFn 1 (r 18) (fCons (fVar 0) fNil))) (.nm 2) (fSeq (fSet 3 (fMv (fFn 2 (r 19) (fCons (fVar 0) (fCons (fVar 2) fNil)))))
    (fIfS (fTB (fB gNe (fVar 3) (fTup fNil))) (fApp 1 (fTup (fCons (fVar 2) (fCons (fTup (fCons (fB gIx (fVar 3) (fC (.int 0))) (fCons (fB gSub (fCall gLen (fConsr (fVar 3) fNilr)) (fC (.int 1))) fNil))) fNil)))) fNext)))
    (fRetO 1)))
/-- _law_sign_at -/
def b25 (r : Nat → RunF) : FS := (fSeq (fFor (fAny (fVar 0)) (.tp [(.nm 2), (.nm 3)]) (fIfS (fTB (fB gEq (fVar 2) (fVar 1))) (fRet (fMv (fVar 3))) fNext))
    (fRet (fMv (fC .non))))
/-- _law_built -/
def b26 (r : Nat → RunF) : FS := (fSeq (fSet 2 (fMv (fFn 2 (r 25) (fCons (fVar 0) (fCons (fVar 1) fNil)))))
    (fSeq (fIfS (fTB (fB gIsN (fVar 2) (fC .non))) (fRet (fMv (fTup fNil))) fNext)
    (fRet (fMv (fB gAdd (fTup (fCons (fB gIx (fVar 2) (fC (.int 0))) fNil)) (fCall gTuple (fConsr (fLc (fRng1 (fB gIx (fVar 2) (fC (.int 1)))) (.nm 3) fYes (fFn 2 (r 26) (fCons (fVar 0) (fCons (fB gAdd (fVar 1) (fTup (fCons (fVar 3) fNil))) fNil))) [3]) fNilr)))))))
/-- _law_odd -/
def b27 (r : Nat → RunF) : FS := (fSeq (fSet 2 (fMo (fLst fNil)))
    (fSeq (fFor (fAny (fVar 0)) (.tp [(.nm 3), (.nm 4)]) (fSeq (fSet 5 (fMv (fFn 2 (r 25) (fCons (fVar 1) (fCons (fVar 3) fNil)))))
    (fIfS (fAnd (fTB (fB gNotN (fVar 5) (fC .non))) (fTB (fB gNe (fVar 5) (fVar 4)))) (fApp 2 (fVar 3)) fNext)))
    (fRet (fMv (fIf (fTB (fB gNe (fVar 2) (fLst fNil))) (fB gIx (fCall gSorted (fConsr (fVar 2) fNilr)) (fC (.int 0))) (fC .non))))))
/-- _law_in -/
def b28 (r : Nat → RunF) : FS := (fRet (fMv (fB gEq (fLc (fAny (fVar 0)) (.nm 2) (fTB (fB gNe (fFn 2 (r 25) (fCons (fVar 1) (fCons (fB gIx (fVar 2) (fC (.int 0))) fNil))) (fB gIx (fVar 2) (fC (.int 1))))) (fVar 2) [2]) (fLst fNil))))
/-- _law_join_told -/
def b29 (r : Nat → RunF) : FS := (fSeq (fTry [0] 0 (fSet 2 (fMv (fFn 2 (r 8) (fCons (fVar 0) (fCons (fVar 1) fNil))))) (fSet 2 (fMv (fC .non))))
    (fRet (fMv (fVar 2))))
/-- _law_all_told -/
def b30 (r : Nat → RunF) : FS := (fSeq (fTry [0] 0 (fSet 1 (fMv (fFn 1 (r 9) (fCons (fVar 0) fNil)))) (fSet 1 (fMv (fC .non))))
    (fRet (fMv (fVar 1))))
/-- _law_pair_right -/
def b31 (r : Nat → RunF) : FS := (fSeq (fAsg (.tp [(.nm 2), (.nm 3)]) (fTup (fCons (fFnN 1 (r 24) (fCons (fVar 0) fNil)) (fCons (fFnN 1 (r 24) (fCons (fVar 1) fNil)) fNil))))
    (fSeq (fSet 4 (fMv (fFn 2 (r 27) (fCons (fVar 2) (fCons (fVar 3) fNil)))))
    (fSeq (fSet 5 (fMv (fLc (fAny (fVar 2)) (.nm 6) (fTB (fB gEq (fFn 2 (r 25) (fCons (fVar 3) (fCons (fB gIx (fVar 6) (fC (.int 0))) fNil))) (fB gIx (fVar 6) (fC (.int 1))))) (fVar 6) [6])))
    (fSeq (fSet 7 (fMv (fIf (fTB (fB gIsN (fVar 4) (fC .non))) (fFn 2 (r 26) (fCons (fB gCat (fVar 2) (fVar 3)) (fCons (fTup fNil) fNil))) (fC .non))))
    (fSeq (fSet 8 (fMv (fFn 2 (r 26) (fCons (fVar 5) (fCons (fTup fNil) fNil)))))
    (fSeq (fPar 9 10 (fMv (fFn 1 (r 16) (fCons (fLst (fCons (fVar 0) (fCons (fVar 1) fNil))) fNil))) (fMv (fFn 2 (r 29) (fCons (fVar 0) (fCons (fVar 1) fNil)))))
    (fSeq (fSet 11 (fMv (fLst (fCons (fFn 2 (r 4) (fCons (fVar 0) (fCons (fVar 1) fNil))) (fCons (fFn 2 (r 4) (fCons (fB gIx (fVar 9) (fC (.int 1))) (fCons (fB gIx (fVar 9) (fC (.int 0))) fNil))) (fCons (fFn 2 (r 5) (fCons (fVar 0) (fCons (fVar 1) fNil))) (fCons (fFn 2 (r 5) (fCons (fB gIx (fVar 9) (fC (.int 0))) (fCons (fB gIx (fVar 9) (fC (.int 1))) fNil))) fNil)))))))
    (fSeq (fSet 12 (fMv (fLst (fCons (fFn 2 (r 28) (fCons (fVar 2) (fCons (fVar 3) fNil))) (fCons (fFn 2 (r 28) (fCons (fVar 3) (fCons (fVar 2) fNil))) (fCons (fB gIsN (fVar 4) (fC .non)) (fCons (fB gIsN (fVar 4) (fC .non)) fNil)))))))
    (fSeq (fSet 11 (fMv (fB gCat (fVar 11) (fLst (fCons (fFn 2 (r 6) (fCons (fVar 0) (fCons (fVar 1) fNil))) (fCons (fFn 2 (r 6) (fCons (fB gIx (fVar 9) (fC (.int 1))) (fCons (fB gIx (fVar 9) (fC (.int 0))) fNil))) (fCons (fVar 10) (fCons (fFn 2 (r 29) (fCons (fB gIx (fVar 9) (fC (.int 1))) (fCons (fB gIx (fVar 9) (fC (.int 0))) fNil))) fNil))))))))
    (fSeq (fSet 12 (fMv (fB gCat (fVar 12) (fLst (fCons (fVar 4) (fCons (fVar 4) (fCons (fVar 7) (fCons (fVar 7) fNil))))))))
    (fSeq (fSet 11 (fMv (fB gCat (fVar 11) (fLst (fCons (fFn 2 (r 10) (fCons (fVar 0) (fCons (fVar 1) fNil))) (fCons (fFn 2 (r 10) (fCons (fB gIx (fVar 9) (fC (.int 0))) (fCons (fB gIx (fVar 9) (fC (.int 1))) fNil))) (fCons (fFn 2 (r 10) (fCons (fVar 1) (fCons (fVar 0) fNil))) fNil)))))))
    (fSeq (fSet 11 (fMv (fB gCat (fVar 11) (fLst (fCons (fFn 2 (r 4) (fCons (fVar 8) (fCons (fVar 0) fNil))) (fCons (fFn 2 (r 4) (fCons (fVar 8) (fCons (fVar 1) fNil))) (fCons (fFn 2 (r 4) (fCons (fVar 0) (fCons (fVar 0) fNil))) (fCons (fFn 2 (r 4) (fCons (fTup fNil) (fCons (fVar 0) fNil))) fNil))))))))
    (fSeq (fSet 12 (fMv (fB gCat (fVar 12) (fLst (fCons (fVar 8) (fCons (fVar 8) (fCons (fVar 8) (fCons (fC (.bl true)) (fCons (fC (.bl true)) (fCons (fC (.bl true)) (fCons (fC (.bl true)) fNil)))))))))))
    (fSeq (fIfS (fTB (fB gNotN (fVar 10) (fC .non))) (fSeq (fSet 11 (fMv (fB gCat (fVar 11) (fLst (fCons (fFn 2 (r 4) (fCons (fVar 0) (fCons (fVar 10) fNil))) (fCons (fFn 2 (r 4) (fCons (fVar 1) (fCons (fVar 10) fNil))) (fCons (fB gEq (fVar 10) (fVar 1)) (fCons (fB gEq (fVar 10) (fVar 0)) fNil))))))))
    (fSet 12 (fMv (fB gCat (fVar 12) (fLst (fCons (fC (.bl true)) (fCons (fC (.bl true)) (fCons (fFn 2 (r 4) (fCons (fVar 0) (fCons (fVar 1) fNil))) (fCons (fFn 2 (r 4) (fCons (fVar 1) (fCons (fVar 0) fNil))) fNil))))))))) fNext)
    (fSeq (fSet 11 (fMv (fB gCat (fVar 11) (fLst (fCons (fB gEq (fVar 8) (fVar 0)) (fCons (fB gEq (fVar 8) (fVar 1)) fNil))))))
    (fSeq (fSet 12 (fMv (fB gCat (fVar 12) (fLst (fCons (fFn 2 (r 4) (fCons (fVar 0) (fCons (fVar 1) fNil))) (fCons (fFn 2 (r 4) (fCons (fVar 1) (fCons (fVar 0) fNil))) fNil))))))
    (fRet (fMv (fAndV (fFn 2 (r 17) (fCons (fVar 11) (fCons (fVar 12) fNil))) (fB gEq (fVar 9) (fFn 1 (r 16) (fCons (fLst (fCons (fVar 0) (fCons (fVar 1) fNil))) fNil))))))))))))))))))))))
/-- _law_odd_things -/
def b32 (r : Nat → RunF) : FS := (fRet (fMo (fLst (fCons (fC .non) (fCons (fC (.bl true)) (fCons (fC (.int 0)) (fCons (fC (.str "a")) (fCons (fLst fNil) (fCons (fLst (fCons (fC (.str "a")) fNil)) (fCons (fTup (fCons (fC (.str "")) fNil)) (fCons (fTup (fCons (fC (.str "abcdefghi")) fNil)) (fCons (fTup (fCons (fC (.str "A")) fNil)) (fCons (fTup (fCons (fC (.str "a b")) fNil)) (fCons (fTup (fCons (fC (.int 0)) fNil)) (fCons (fTup (fCons (fTup fNil) fNil)) (fCons (fTup (fCons (fTup (fCons (fC (.str "a")) fNil)) fNil)) (fCons (fTup (fCons (fC (.str "f")) (fCons (fTup fNil) (fCons (fTup fNil) (fCons (fTup fNil) (fCons (fTup fNil) fNil)))))) (fCons (fTup (fCons (fC (.str "f")) (fCons (fC .non) fNil))) (fCons (fTup (fCons (fC (.str "f")) (fCons (fLst fNil) fNil))) (fCons (fTup (fCons (fC (.str "f")) (fCons (fC (.str "a")) fNil))) (fCons (fTup (fCons (fTup fNil) (fCons (fC (.str "f")) fNil))) (fCons (fTup (fCons (fC (.str "f")) (fCons (fC (.int 0)) fNil))) fNil))))))))))))))))))))))
/-- _law_case_right -/
def b33 (r : Nat → RunF) : FS := (fSeq (fAsg (.tp [(.nm 4), (.nm 5), (.nm 6)]) (fVar 0))
    (fSeq (fFor (fAny (fLst (fCons (fTup (fCons (fVar 4) (fCons (fVar 5) fNil))) (fCons (fTup (fCons (fVar 5) (fCons (fVar 6) fNil))) (fCons (fTup (fCons (fVar 6) (fCons (fVar 4) fNil))) (fCons (fTup (fCons (fVar 4) (fCons (fVar 4) fNil))) (fCons (fTup (fCons (fVar 4) (fCons (fVar 1) fNil))) fNil))))))) (.tp [(.nm 7), (.nm 8)]) (fIfS (fNot (fTT (fFn 2 (r 31) (fCons (fVar 7) (fCons (fVar 8) fNil))))) (fRet (fMv (fC (.bl false)))) fNext))
    (fSeq (fSet 9 (fMv (fLc (fAny (fVar 0)) (.nm 10) fYes (fFnN 1 (r 24) (fCons (fVar 10) fNil)) [10])))
    (fSeq (fSet 11 (fMv (fLst (fCons (fFn 2 (r 27) (fCons (fB gIx (fVar 9) (fC (.int 0))) (fCons (fB gIx (fVar 9) (fC (.int 1))) fNil))) (fCons (fFn 2 (r 27) (fCons (fB gIx (fVar 9) (fC (.int 1))) (fCons (fB gIx (fVar 9) (fC (.int 2))) fNil))) (fCons (fFn 2 (r 27) (fCons (fB gIx (fVar 9) (fC (.int 0))) (fCons (fB gIx (fVar 9) (fC (.int 2))) fNil))) fNil))))))
    (fSeq (fSet 12 (fMv (fB gEq (fVar 11) (fLst (fCons (fC .non) (fCons (fC .non) (fCons (fC .non) fNil)))))))
    (fSeq (fSet 13 (fMv (fIf (fTT (fVar 12)) (fFn 2 (r 26) (fCons (fB gCat (fB gCat (fB gIx (fVar 9) (fC (.int 0))) (fB gIx (fVar 9) (fC (.int 1)))) (fB gIx (fVar 9) (fC (.int 2)))) (fCons (fTup fNil) fNil))) (fC .non))))
    (fSeq (fSet 14 (fMv (fLst (fCons (fFn 1 (r 30) (fCons (fVar 0) fNil)) (fCons (fFn 1 (r 30) (fCons (fFn 1 (r 16) (fCons (fVar 0) fNil)) fNil)) (fCons (fFn 1 (r 30) (fCons (fLst fNil) fNil)) (fCons (fFn 1 (r 30) (fCons (fLst (fCons (fVar 4) fNil)) fNil)) fNil)))))))
    (fSeq (fSet 15 (fMv (fLst (fCons (fVar 13) (fCons (fVar 13) (fCons (fTup fNil) (fCons (fVar 4) fNil)))))))
    (fSeq (fSet 14 (fMv (fB gCat (fB gCat (fVar 14) (fLc (fAny (fVar 0)) (.nm 10) fYes (fFn 1 (r 2) (fCons (fVar 10) fNil)) [10])) (fLst (fCons (fFn 1 (r 2) (fCons (fFn 1 (r 16) (fCons (fVar 1) fNil)) fNil)) fNil)))))
    (fSeq (fSet 15 (fMv (fB gCat (fVar 15) (fLst (fCons (fC (.bl true)) (fCons (fC (.bl true)) (fCons (fC (.bl true)) (fCons (fC (.bl false)) fNil))))))))
    (fSeq (fSet 16 (fMv (fFn 3 (r 20) (fCons (fVar 1) (fCons (fVar 2) (fCons (fB gIx (fFn0 (r 32)) (fVar 3)) fNil))))))
    (fSeq (fSet 14 (fMv (fB gCat (fVar 14) (fLst (fCons (fFn 1 (r 2) (fCons (fVar 16) fNil)) (fCons (fFn 1 (r 2) (fCons (fFn 3 (r 20) (fCons (fVar 1) (fCons (fVar 2) (fCons (fTup (fCons (fC (.str "abcdefgh")) (fCons (fTup fNil) (fCons (fTup (fCons (fC (.str "mark")) fNil)) (fCons (fTup fNil) fNil))))) fNil)))) fNil)) fNil))))))
    (fRet (fMv (fFn 2 (r 17) (fCons (fVar 14) (fCons (fB gCat (fVar 15) (fLst (fCons (fC (.bl false)) (fCons (fC (.bl true)) fNil)))) fNil)))))))))))))))))
/-- _law_by_hand_right -/
def b34 (r : Nat → RunF) : FS := (fSeq (fAsg (.tp [(.nm 0), (.nm 1)]) (fTup (fCons (fTup (fCons (fC (.str "f")) (fCons (fTup (fCons (fC (.str "g")) (fCons (fTup fNil) fNil))) (fCons (fTup fNil) fNil)))) (fCons (fTup (fCons (fC (.str "f")) (fCons (fTup fNil) (fCons (fTup (fCons (fC (.str "b")) fNil)) fNil)))) fNil))))
    (fSeq (fSet 2 (fMo (fLst (fCons (fFn 2 (r 8) (fCons (fVar 0) (fCons (fVar 1) fNil))) (fCons (fFn 2 (r 10) (fCons (fVar 0) (fCons (fVar 1) fNil))) (fCons (fFn 2 (r 4) (fCons (fVar 1) (fCons (fVar 0) fNil))) fNil))))))
    (fSeq (fSet 3 (fMv (fLst (fCons (fTup (fCons (fC (.str "f")) (fCons (fTup (fCons (fC (.str "g")) (fCons (fTup fNil) fNil))) (fCons (fTup (fCons (fC (.str "b")) fNil)) fNil)))) (fCons (fTup (fCons (fC (.str "f")) (fCons (fTup fNil) (fCons (fTup fNil) fNil)))) (fCons (fC (.bl false)) fNil))))))
    (fSeq (fSet 2 (fMo (fB gCat (fVar 2) (fLst (fCons (fFn 2 (r 5) (fCons (fVar 0) (fCons (fTup (fCons (fC (.str "f")) (fCons (fTup (fCons (fC (.str "a")) fNil)) (fCons (fTup fNil) fNil)))) fNil))) (fCons (fFn 2 (r 6) (fCons (fTup (fCons (fC (.str "f")) (fCons (fTup (fCons (fC (.str "a")) fNil)) (fCons (fTup (fCons (fC (.str "b")) fNil)) fNil)))) (fCons (fTup (fCons (fC (.str "f")) (fCons (fTup fNil) (fCons (fTup (fCons (fC (.str "c")) fNil)) fNil)))) fNil))) fNil))))))
    (fSeq (fSet 2 (fMo (fB gCat (fVar 2) (fLst (fCons (fFn 2 (r 6) (fCons (fTup (fCons (fC (.str "f")) fNil)) (fCons (fTup (fCons (fC (.str "f")) (fCons (fTup fNil) fNil))) fNil))) (fCons (fFn 2 (r 6) (fCons (fTup fNil) (fCons (fVar 0) fNil))) (fCons (fFnK 2 0 2 [1, 0] (r 8) fNil (fCons (fVar 0) (fCons (fTup fNil) fNil))) (fCons (fFn 2 (r 4) (fCons (fTup fNil) (fCons (fTup fNil) fNil))) fNil))))))))
    (fSeq (fSet 3 (fMv (fB gCat (fVar 3) (fLst (fCons (fC (.bl false)) (fCons (fTup (fCons (fC (.int 1)) fNil)) (fCons (fTup fNil) (fCons (fC .non) (fCons (fVar 0) (fCons (fC (.bl true)) fNil))))))))))
    (fSeq (fSet 2 (fMo (fB gCat (fVar 2) (fLst (fCons (fFnK 2 0 2 [1, 0] (r 4) fNil (fCons (fTup fNil) (fCons (fTup (fCons (fC (.str "a")) fNil)) fNil))) (fCons (fFnK 2 0 2 [1, 0] (r 5) fNil (fCons (fTup fNil) (fCons (fTup (fCons (fC (.str "a")) fNil)) fNil))) fNil))))))
    (fSeq (fApp 2 (fFnK 2 0 2 [1, 0] (r 10) fNil (fCons (fTup (fCons (fC (.str "f")) fNil)) (fCons (fTup (fCons (fC (.str "f")) (fCons (fTup fNil) fNil))) fNil))))
    (fSeq (fSet 2 (fMo (fB gCat (fVar 2) (fLst (fCons (fFnK 2 0 2 [1, 0] (r 6) fNil (fCons (fTup (fCons (fC (.str "f")) (fCons (fTup (fCons (fC (.str "b")) fNil)) fNil))) (fCons (fTup (fCons (fC (.str "f")) (fCons (fTup (fCons (fC (.str "a")) fNil)) fNil))) fNil))) (fCons (fFnK 1 0 1 [0] (r 9) fNil (fCons (fTup (fCons (fVar 0) (fCons (fVar 1) (fCons (fTup fNil) fNil)))) fNil)) fNil))))))
    (fSeq (fSet 3 (fMv (fB gCat (fVar 3) (fLst (fCons (fC (.bl false)) (fCons (fC (.bl true)) (fCons (fTup fNil) (fCons (fTup (fCons (fC (.int 0)) fNil)) (fCons (fTup (fCons (fC (.str "f")) (fCons (fTup (fCons (fC (.str "g")) (fCons (fTup fNil) fNil))) (fCons (fTup (fCons (fC (.str "b")) fNil)) fNil)))) fNil)))))))))
    (fSeq (fApp 2 (fLc (fAny (fFn0 (r 32))) (.nm 4) fYes (fFn 1 (r 2) (fCons (fVar 4) fNil)) [4]))
    (fSeq (fSet 2 (fMo (fB gCat (fVar 2) (fLst (fCons (fFnK 1 0 1 [0] (r 2) fNil (fCons (fTup fNil) fNil)) (fCons (fFn 1 (r 2) (fCons (fTup (fCons (fC (.str "a")) fNil)) fNil)) (fCons (fFn 1 (r 2) (fCons (fTup (fCons (fC (.str "f")) (fCons (fTup fNil) (fCons (fTup fNil) fNil)))) fNil)) fNil)))))))
    (fSeq (fSet 3 (fMv (fB gCat (fVar 3) (fLst (fCons (fB gRep (fLst (fCons (fC (.bl false)) fNil)) (fCall gLen (fConsr (fFn0 (r 32)) fNilr))) (fCons (fC (.bl true)) (fCons (fC (.bl true)) (fCons (fC (.bl true)) fNil))))))))
    (fSeq (fSet 2 (fMo (fB gCat (fVar 2) (fLst (fCons (fFn 1 (r 30) (fCons (fTup (fCons (fVar 0) (fCons (fVar 1) (fCons (fTup (fCons (fC (.str "f")) (fCons (fTup (fCons (fC (.str "h")) fNil)) (fCons (fTup fNil) fNil)))) fNil)))) fNil)) (fCons (fFn 1 (r 30) (fCons (fTup (fCons (fTup (fCons (fC (.str "a")) fNil)) (fCons (fTup fNil) (fCons (fTup (fCons (fC (.str "b")) fNil)) fNil)))) fNil)) fNil))))))
    (fSeq (fSet 2 (fMo (fB gCat (fVar 2) (fLst (fCons (fFn 2 (r 29) (fCons (fTup (fCons (fC (.str "f")) (fCons (fTup (fCons (fC (.str "a")) fNil)) (fCons (fTup (fCons (fC (.str "a")) fNil)) fNil)))) (fCons (fTup (fCons (fC (.str "f")) (fCons (fTup (fCons (fC (.str "b")) fNil)) (fCons (fTup (fCons (fC (.str "b")) fNil)) fNil)))) fNil))) fNil)))))
    (fSeq (fFrz 2 (fIfS (fNot (fTT (fFn 2 (r 17) (fCons (fVar 2) (fCons (fB gCat (fVar 3) (fLst (fCons (fC .non) (fCons (fC .non) (fCons (fC .non) fNil))))) fNil))))) (fRet (fMv (fC (.bl false)))) fNext))
    (fRet (fMv (fFn 4 (r 33) (fCons (fLst (fCons (fVar 0) (fCons (fVar 1) (fCons (fTup (fCons (fC (.str "f")) (fCons (fTup fNil) (fCons (fTup fNil) fNil)))) fNil)))) (fCons (fTup (fCons (fC (.str "f")) (fCons (fTup (fCons (fC (.str "g")) (fCons (fTup (fCons (fC (.str "a")) fNil)) fNil))) (fCons (fTup (fCons (fC (.str "b")) fNil)) fNil)))) (fCons (fTup (fCons (fC (.int 0)) (fCons (fC (.int 0)) fNil))) (fCons (fC (.int 5)) fNil)))))))))))))))))))))))
/-- _law_right -/
def b35 (r : Nat → RunF) : FS := (fSeq (fPar 1 2 (fMv (fFn 2 (r 12) (fCons (fVar 0) (fCons (fC (.int 3)) fNil)))) (fMv (fFn 2 (r 12) (fCons (fVar 0) (fCons (fC (.int 19)) fNil)))))
    (fSeq (fSet 3 (fMv (fFn0 (r 23))))
    (fSeq (fSet 4 (fMv (fFn 4 (r 22) (fCons (fVar 0) (fCons (fVar 3) (fCons (fB gAdd (fC (.int 7)) (fFn 2 (r 12) (fCons (fVar 0) (fCons (fC (.int 14)) fNil)))) (fCons (fC (.int 4)) fNil)))))))
    (fSeq (fSet 5 (fMo (fLst fNil)))
    (fSeq (fFor (fRng1 (fC (.int 3))) (.nm 6) (fSeq (fSet 7 (fMv (fVar 4)))
    (fSeq (fFor (fAny (fFnN 3 (r 15) (fCons (fVar 0) (fCons (fFn 1 (r 18) (fCons (fVar 4) fNil)) (fCons (fFn 2 (r 12) (fCons (fVar 0) (fCons (fC (.int 4)) fNil))) fNil))))) (.nm 8) (fIfS (fAnd (fTB (fB (gIn false) (fVar 8) (fFn 1 (r 18) (fCons (fVar 7) fNil)))) (fOr (fTB (fB gNe (fVar 8) (fTup fNil))) (fTB (fB gEq (fFn 2 (r 12) (fCons (fVar 0) (fCons (fC (.int 4)) fNil))) (fC (.int 0)))))) (fSet 7 (fMv (fFn 3 (r 20) (fCons (fVar 7) (fCons (fVar 8) (fCons (fTup fNil) fNil)))))) fNext))
    (fApp 5 (fVar 7)))))
    (fSeq (fIfS (fTB (fB gEq (fVar 1) (fC (.int 0)))) (fSeq (fSet 8 (fMv (fFn 2 (r 14) (fCons (fVar 0) (fCons (fFn 1 (r 18) (fCons (fB gIx (fVar 5) (fC (.int 2))) fNil)) fNil)))))
    (fSetIx 5 (fFn 3 (r 20) (fCons (fB gIx (fVar 5) (fC (.int 2))) (fCons (fVar 8) (fCons (fFn 4 (r 21) (fCons (fVar 0) (fCons (fVar 3) (fCons (fC (.int 4)) (fCons (fC (.int 2)) fNil))))) fNil)))) (fC (.int 2)))) fNext)
    (fFrz 5 (fRet (fMv (fFn 4 (r 33) (fCons (fVar 5) (fCons (fVar 4) (fCons (fFn 2 (r 14) (fCons (fVar 0) (fCons (fFn 1 (r 18) (fCons (fVar 4) fNil)) fNil))) (fCons (fVar 2) fNil))))))))))))))
/-- law -/
def b36 (r : Nat → RunF) : FS := (fSeq (fIfS (fNot (fTT (fFn0 (r 34)))) (fRet (fMv (fC (.bl false)))) fNext)
    (fSeq (fSet 1 (fMv (fFnN 2 (r 13) (fCons (fVar 0) (fCons (fC (.int 2)) fNil)))))
    (fRet (fMv (fCall gAll (fConsr (fLc (fRng1 (fCall gLen (fConsr (fVar 1) fNilr))) (.nm 2) fYes (fBox (r 35) (fFnN 2 (r 11) (fCons (fVar 1) (fCons (fVar 2) fNil)))) [2]) fNilr))))))
/-- first_agreeing -/
def b37 (r : Nat → RunF) : FS := (fSeq (fIfS (fTB (fB gEq (fVar 1) (fC g_OPEN))) (fRet (fMv (fC .non))) fNext)
    (fSeq (fFor (fEn (fVar 0)) (.tp [(.nm 2), (.nm 3)]) (fIfS (fTT (fFn 2 (r 5) (fCons (fVar 3) (fCons (fVar 1) fNil)))) (fRet (fMv (fVar 2))) fNext))
    (fRet (fMv (fC .non)))))
/-- passed -/
def b38 (r : Nat → RunF) : FS := (fSeq (fIfS (fTB (fB gEq (fVar 1) (fC g_OPEN))) (fRet (fMv (fC g_OPEN))) fNext)
    (fSeq (fSet 4 (fMv (fLc (fEn (fSl gSl (fVar 1) (fSomeO (fC (.int 1))) fNoO)) (.tp [(.nm 5), (.nm 6)]) fYes (fFn 4 (r 38) (fCons (fVar 0) (fCons (fVar 6) (fCons (fB gAdd (fVar 2) (fTup (fCons (fVar 5) fNil))) (fCons (fVar 3) fNil))))) [5, 6])))
    (fSeq (fSet 7 (fMv (fB gAdd (fSl gSl (fVar 1) fNoO (fSomeO (fC (.int 1)))) (fCall gTuple (fConsr (fVar 4) fNilr)))))
    (fSeq (fSet 8 (fMv (fFn 2 (r 37) (fCons (fVar 0) (fCons (fVar 7) fNil)))))
    (fSeq (fIfS (fTB (fB gIsN (fVar 8) (fC .non))) (fRet (fMv (fVar 7))) fNext)
    (fSeq (fApp 3 (fTup (fCons (fVar 2) (fCons (fVar 8) fNil))))
    (fRet (fMv (fC g_OPEN)))))))))
/-- rows_of -/
def b39 (r : Nat → RunF) : FS := (fSeq (fSet 2 (fMo (fLst fNil)))
    (fShr 2 (fSeq (fDrop (fFn 4 (r 38) (fCons (fVar 0) (fCons (fVar 1) (fCons (fTup fNil) (fCons (fVar 2) fNil))))))
    (fRet (fMv (fCall gTuple (fConsr (fVar 2) fNilr)))))))
/-- struck_by -/
def b40 (r : Nat → RunF) : FS := (fRet (fMv (fFn 2 (r 37) (fCons (fFn 1 (r 1) (fCons (fVar 0) fNil)) (fCons (fFn 1 (r 1) (fCons (fVar 1) fNil)) fNil)))))
/-- blot -/
def b41 (r : Nat → RunF) : FS := (fRet (fMv (fFnL 4 (r 38) (fConsl (fFn 1 (r 1) (fCons (fVar 0) fNil)) (fConsl (fFn 1 (r 1) (fCons (fVar 1) fNil)) (fConsl (fTup fNil) (fLast (fLst fNil))))))))
/-- is_struck_whole -/
def b42 (r : Nat → RunF) : FS := (fRet (fMv (fB gEq (fFn 2 (r 41) (fCons (fVar 0) (fCons (fVar 1) fNil))) (fC g_OPEN))))
/-- blot_rows -/
def b43 (r : Nat → RunF) : FS := (fRet (fMv (fFn 2 (r 39) (fCons (fFn 1 (r 1) (fCons (fVar 0) fNil)) (fCons (fFn 1 (r 1) (fCons (fVar 1) fNil)) fNil)))))
/-- _law_box -/
def b44 (r : Nat → RunF) : FS := (fSeq (fSet 2 (fMv (fIf (fTB (fB gLt (fVar 1) (fCall gLen (fConsr (fVar 0) fNilr)))) (fB gIx (fVar 0) (fVar 1)) (fC (.int 0)))))
    (fRet (fMo (fLst (fCons (fB gMul (fCall gAbs (fConsr (fVar 2) fNilr)) (fCall gInt (fConsr (fB gGe (fCall gAbs (fConsr (fVar 2) fNilr)) (fB gPow (fC (.int 10)) (fC (.int 18)))) fNilr))) (fCons (fB gAdd (fB gAdd (fB gMod (fCall gInt (fConsr (fVar 2) fNilr)) (fC (.int 2305843009213693951))) (fB gMul (fC (.int 39373)) (fVar 1))) (fC (.int 1943007))) (fCons (fC (.int 0)) fNil)))))))
/-- _law_agree -/
def b45 (r : Nat → RunF) : FS := (fSeq (fIfS (fOr (fTB (fB gEq (fVar 0) (fTup fNil))) (fTB (fB gEq (fVar 1) (fTup fNil)))) (fRet (fMv (fC (.bl true)))) fNext)
    (fSeq (fIfS (fOr (fTB (fB gNe (fB gIx (fVar 0) (fC (.int 0))) (fB gIx (fVar 1) (fC (.int 0))))) (fTB (fB gNe (fCall gLen (fConsr (fVar 0) fNilr)) (fCall gLen (fConsr (fVar 1) fNilr))))) (fRet (fMv (fC (.bl false)))) fNext)
    (fRet (fMv (fCall gAll (fConsr (fLc (fZp (fSl gSl (fVar 0) (fSomeO (fC (.int 1))) fNoO) (fSl gSl (fVar 1) (fSomeO (fC (.int 1))) fNoO)) (.tp [(.nm 2), (.nm 3)]) fYes (fFn 2 (r 45) (fCons (fVar 2) (fCons (fVar 3) fNil))) [2, 3]) fNilr))))))
/-- _law_bits -/
def b46 (r : Nat → RunF) : FS := (fSeq (fSet 1 (fMv (fLst fNil)))
    (fSeq (fFor (fAny (fVar 0)) (.nm 2) (fSet 1 (fMv (fB gCat (fVar 1) (fLc (fAny (fSl gSlN (fFn 1 (r 18) (fCons (fVar 2) fNil)) (fSomeO (fC (.int 1))) fNoO)) (.nm 3) fYes (fFn 2 (r 19) (fCons (fVar 2) (fCons (fVar 3) fNil))) [3])))))
    (fRet (fMo (fSset' (fLc (fAny (fVar 1)) (.nm 4) (fTB (fB gNe (fVar 4) (fTup fNil))) (fVar 4) [4]))))))
/-- _law_touched -/
def b47 (r : Nat → RunF) : FS := (fRet (fMv (fAndV (fB gNe (fVar 1) (fTup fNil)) (fB gNe (fLc (fAny (fVar 0)) (.nm 2) (fTT (fFn 2 (r 45) (fCons (fVar 2) (fCons (fVar 1) fNil)))) (fVar 2) [2]) (fLst fNil)))))
/-- _law_blot -/
def b48 (r : Nat → RunF) : FS := (fSeq (fSet 2 (fMv (fVar 1)))
    (fSeq (fFor (fRng1 (fC (.int 400))) (.nm 3) (fSeq (fSet 4 (fMv (fLc (fAny (fFn 1 (r 18) (fCons (fVar 2) fNil))) (.nm 5) (fTT (fFn 2 (r 47) (fCons (fVar 0) (fCons (fFn 2 (r 19) (fCons (fVar 2) (fCons (fVar 5) fNil))) fNil)))) (fVar 5) [5])))
    (fSeq (fIfS (fTB (fB gEq (fVar 4) (fLst fNil))) (fRet (fMv (fVar 2))) fNext)
    (fSet 2 (fMv (fFn 3 (r 20) (fCons (fVar 2) (fCons (fB gIx (fVar 4) (fC (.int 0))) (fCons (fTup fNil) fNil)))))))))
    (fRet (fMv (fVar 2)))))
/-- _law_side -/
def b49 (r : Nat → RunF) : FS := (fSeq (fAsg (.tp [(.nm 1), (.nm 2)]) (fFn 2 (r 14) (fCons (fVar 0) (fCons (fLst (fCons (fTup (fCons (fC (.str "f")) (fCons (fC (.int 2)) fNil))) (fCons (fTup (fCons (fC (.str "f")) (fCons (fC (.int 2)) fNil))) (fCons (fTup (fCons (fC (.str "k")) (fCons (fC (.int 3)) fNil))) (fCons (fTup (fCons (fC (.str "h")) (fCons (fC (.int 1)) fNil))) fNil))))) fNil))))
    (fSeq (fSet 3 (fMo (fLst fNil)))
    (fSeq (fFor (fRng1 (fVar 2)) (.nm 4) (fSeq (fSet 5 (fMv (fFn 2 (r 14) (fCons (fVar 0) (fCons (fLst (fCons (fTup fNil) (fCons (fTup (fCons (fC (.str "a")) fNil)) (fCons (fTup (fCons (fC (.str "b")) fNil)) fNil)))) fNil)))))
    (fApp 3 (fFn 2 (r 14) (fCons (fVar 0) (fCons (fLst (fCons (fTup fNil) (fCons (fTup fNil) (fCons (fTup fNil) (fCons (fTup (fCons (fC (.str "a")) fNil)) (fCons (fTup (fCons (fC (.str "b")) fNil)) (fCons (fTup (fCons (fC (.str "a")) fNil)) (fCons (fTup (fCons (fC (.str "g")) (fCons (fVar 5) fNil))) (fCons (fTup (fCons (fC (.str "h")) (fCons (fVar 5) fNil))) fNil))))))))) fNil))))))
    (fRet (fMv (fB gAdd (fTup (fCons (fVar 1) fNil)) (fCall gTuple (fConsr (fVar 3) fNilr))))))))
/-- _law_page -/
def b50 (r : Nat → RunF) : FS := (fSeq (fSet 2 (fMo (fLc (fRng1 (fVar 1)) (.nm 3) fYes (fFn 1 (r 49) (fCons (fVar 0) fNil)) [3])))
    (fSeq (fSet 4 (fMv (fLc (fAny (fFrN 2 (fFnN 1 (r 46) (fCons (fVar 2) fNil)))) (.nm 5) fYes (fVar 5) [5])))
    (fSeq (fIfS (fAnd (fTB (fB gNe (fVar 4) (fLst fNil))) (fTB (fB gEq (fFn 2 (r 12) (fCons (fVar 0) (fCons (fC (.int 3)) fNil))) (fC (.int 0))))) (fApp 2 (fFn 2 (r 14) (fCons (fVar 0) (fCons (fVar 4) fNil)))) fNext)
    (fFrz 2 (fRet (fMv (fCall gTuple (fConsr (fSset' (fVar 2)) fNilr))))))))
/-- _law_three -/
def b51 (r : Nat → RunF) : FS := (fSeq (fAsg (.tp [(.nm 0), (.nm 1)]) (fTup (fCons (fTup (fCons (fC (.str "a")) fNil)) (fCons (fTup (fCons (fC (.str "b")) fNil)) fNil))))
    (fRet (fMv (fTup (fCons (fTup (fCons (fC (.str "f")) (fCons (fTup fNil) (fCons (fVar 0) (fCons (fVar 1) fNil))))) (fCons (fTup (fCons (fC (.str "f")) (fCons (fVar 0) (fCons (fVar 1) (fCons (fTup fNil) fNil))))) (fCons (fTup (fCons (fC (.str "f")) (fCons (fVar 1) (fCons (fTup fNil) (fCons (fVar 0) fNil))))) fNil)))))))
/-- _law_signs_of -/
def b52 (r : Nat → RunF) : FS := (fSeq (fSet 1 (fMo (fLc (fAny (fVar 0)) (.nm 2) fYes (fTup (fCons (fB gIx (fVar 2) (fC (.int 0))) (fCons (fB gSub (fCall gLen (fConsr (fVar 2) fNilr)) (fC (.int 1))) fNil))) [2])))
    (fSeq (fFor (fAny (fFnN 1 (r 46) (fCons (fVar 0) fNil))) (.nm 3) (fApp 1 (fTup (fCons (fB gIx (fVar 3) (fC (.int 0))) (fCons (fB gSub (fCall gLen (fConsr (fVar 3) fNilr)) (fC (.int 1))) fNil)))))
    (fFrz 1 (fRet (fMo (fB gCat (fB gCat (fSset' (fVar 1)) (fSset' (fLc (fAny (fVar 0)) (.nm 2) fYes (fTup (fCons (fB gIx (fVar 2) (fC (.int 0))) (fCons (fB gSub (fCall gLen (fConsr (fVar 2) fNilr)) (fC (.int 1))) fNil))) [2]))) (fLst (fCons (fTup (fCons (fC (.str "a")) (fCons (fC (.int 0)) fNil))) (fCons (fTup (fCons (fC (.str "end")) (fCons (fC (.int 0)) fNil))) fNil)))))))))
/-- _law_near -/
def b53 (r : Nat → RunF) : FS := (fSeq (fSet 3 (fMv (fFn 2 (r 14) (fCons (fVar 0) (fCons (fVar 1) fNil)))))
    (fSeq (fSet 4 (fMv (fFn 1 (r 18) (fCons (fVar 3) fNil))))
    (fSeq (fFor (fAny (fFnN 3 (r 15) (fCons (fVar 0) (fCons (fSl gSlN (fVar 4) (fSomeO (fC (.int 1))) fNoO) (fCons (fC (.int 2)) fNil))))) (.nm 5) (fIfS (fTB (fB (gIn false) (fVar 5) (fFn 1 (r 18) (fCons (fVar 3) fNil)))) (fSeq (fSet 6 (fMv (fIf (fTB (fB gGt (fVar 2) (fC (.int 0)))) (fFn 3 (r 53) (fCons (fVar 0) (fCons (fVar 1) (fCons (fB gSub (fVar 2) (fC (.int 1))) fNil)))) (fTup fNil))))
    (fSet 3 (fMv (fFn 3 (r 20) (fCons (fVar 3) (fCons (fVar 5) (fCons (fFn 2 (r 14) (fCons (fVar 0) (fCons (fLst (fCons (fTup fNil) (fCons (fTup fNil) (fCons (fVar 6) (fCons (fVar 6) (fCons (fTup (fCons (fC (.str "a")) fNil)) (fCons (fTup (fCons (fC (.str "b")) fNil)) fNil))))))) fNil))) fNil))))))) fNext))
    (fRet (fMv (fVar 3))))))
/-- _law_first -/
def b54 (r : Nat → RunF) : FS := (fSeq (fSet 2 (fMv (fLc (fEn (fVar 0)) (.tp [(.nm 3), (.nm 4)]) (fAnd (fTB (fB gNe (fVar 1) (fTup fNil))) (fTT (fFn 2 (r 45) (fCons (fVar 4) (fCons (fVar 1) fNil))))) (fVar 3) [3, 4])))
    (fRet (fMv (fIf (fTB (fB gNe (fVar 2) (fLst fNil))) (fB gIx (fVar 2) (fC (.int 0))) (fC .non)))))
/-- _law_below -/
def b55 (r : Nat → RunF) : FS := (fSeq (fIfS (fTB (fB gEq (fVar 1) (fTup fNil))) (fRet (fMv (fTup fNil))) fNext)
    (fSeq (fSet 4 (fMv (fLc (fEn (fSl gSl (fVar 1) (fSomeO (fC (.int 1))) fNoO)) (.tp [(.nm 5), (.nm 6)]) fYes (fFn 4 (r 55) (fCons (fVar 0) (fCons (fVar 6) (fCons (fB gAdd (fVar 2) (fTup (fCons (fVar 5) fNil))) (fCons (fVar 3) fNil))))) [5, 6])))
    (fSeq (fSet 7 (fMv (fB gAdd (fSl gSl (fVar 1) fNoO (fSomeO (fC (.int 1)))) (fCall gTuple (fConsr (fVar 4) fNilr)))))
    (fSeq (fSet 8 (fMv (fFn 2 (r 54) (fCons (fVar 0) (fCons (fVar 7) fNil)))))
    (fSeq (fIfS (fTB (fB gIsN (fVar 8) (fC .non))) (fRet (fMv (fVar 7))) fNext)
    (fSeq (fApp 3 (fTup (fCons (fVar 2) (fCons (fVar 8) fNil))))
    (fRet (fMv (fTup fNil)))))))))
/-- _law_case_right -/
def b56 (r : Nat → RunF) : FS := (fSeq (fPar 2 3 (fMo (fLst fNil)) (fMv (fFn 1 (r 16) (fCons (fVar 1) fNil))))
    (fShr 2 (fSeq (fSet 4 (fMv (fFn 2 (r 48) (fCons (fVar 0) (fCons (fVar 1) fNil)))))
    (fSeq (fIfS (fNot (fTT (fFn 2 (r 17) (fCons (fFn 4 (r 55) (fCons (fVar 0) (fCons (fVar 1) (fCons (fTup fNil) (fCons (fVar 2) fNil))))) (fCons (fVar 4) fNil))))) (fRet (fMv (fC (.bl false)))) fNext)
    (fSeq (fSet 5 (fMo (fLst (fCons (fFn 2 (r 41) (fCons (fVar 0) (fCons (fVar 1) fNil))) (fCons (fFn 2 (r 41) (fCons (fFn 1 (r 16) (fCons (fVar 0) fNil)) (fCons (fVar 3) fNil))) (fCons (fFnK 2 0 2 [1, 0] (r 41) fNil (fCons (fVar 1) (fCons (fVar 0) fNil))) fNil))))))
    (fSeq (fSet 5 (fMo (fB gCat (fVar 5) (fLst (fCons (fFn 2 (r 43) (fCons (fVar 0) (fCons (fVar 1) fNil))) (fCons (fFn 2 (r 43) (fCons (fFn 1 (r 16) (fCons (fVar 0) fNil)) (fCons (fVar 3) fNil))) (fCons (fFn 2 (r 42) (fCons (fVar 0) (fCons (fVar 1) fNil))) fNil)))))))
    (fSeq (fSet 6 (fMo (fB gCat (fB gRep (fLst (fCons (fVar 4) fNil)) (fC (.int 3))) (fLst (fCons (fCall gTuple (fConsr (fVar 2) fNilr)) (fCons (fCall gTuple (fConsr (fVar 2) fNilr)) (fCons (fB gEq (fVar 4) (fTup fNil)) fNil)))))))
    (fSeq (fFor (fAny (fFn 1 (r 18) (fCons (fVar 1) fNil))) (.nm 7) (fSeq (fSet 8 (fMv (fFn 2 (r 19) (fCons (fVar 1) (fCons (fVar 7) fNil)))))
    (fSeq (fApp 5 (fFn 2 (r 40) (fCons (fVar 0) (fCons (fVar 8) fNil))))
    (fApp 6 (fFn 2 (r 54) (fCons (fVar 0) (fCons (fVar 8) fNil)))))))
    (fRet (fMv (fFn 2 (r 17) (fCons (fB gCat (fVar 5) (fLst (fCons (fVar 3) fNil))) (fCons (fB gCat (fVar 6) (fLst (fCons (fFn 1 (r 16) (fCons (fVar 1) fNil)) fNil))) fNil)))))))))))))
/-- _law_by_hand_right -/
def b57 (r : Nat → RunF) : FS := (fSeq (fPar3 0 1 2 (fMv (fTup (fCons (fC (.str "a")) fNil))) (fMv (fTup (fCons (fC (.str "b")) fNil))) (fMv (fFn0 (r 51))))
    (fSeq (fSet 3 (fMv (fTup (fCons (fC (.str "f")) (fCons (fVar 1) (fCons (fVar 1) (fCons (fTup (fCons (fC (.str "g")) (fCons (fTup (fCons (fC (.str "f")) (fCons (fTup fNil) (fCons (fTup fNil) (fCons (fTup fNil) fNil))))) fNil))) fNil)))))))
    (fSeq (fPar 4 5 (fMv (fTup (fCons (fTup (fCons (fC (.str "f")) (fCons (fTup (fCons (fC (.str "c")) fNil)) fNil))) (fCons (fTup (fCons (fC (.str "h")) (fCons (fTup fNil) fNil))) fNil)))) (fMv (fTup (fCons (fTup (fCons (fC (.str "f")) (fCons (fTup (fCons (fC (.str "g")) (fCons (fTup fNil) fNil))) (fCons (fVar 0) fNil)))) fNil))))
    (fSeq (fSet 6 (fMo (fLst (fCons (fFn 2 (r 41) (fCons (fVar 2) (fCons (fVar 3) fNil))) (fCons (fFn 2 (r 43) (fCons (fVar 2) (fCons (fVar 3) fNil))) (fCons (fFn 2 (r 40) (fCons (fVar 2) (fCons (fVar 3) fNil))) fNil))))))
    (fSeq (fSet 7 (fMv (fLst (fCons (fTup (fCons (fC (.str "f")) (fCons (fVar 1) (fCons (fVar 1) (fCons (fTup (fCons (fC (.str "g")) (fCons (fTup fNil) fNil))) fNil))))) (fCons (fTup (fCons (fTup (fCons (fTup (fCons (fC (.int 2)) (fCons (fC (.int 0)) fNil))) (fCons (fC (.int 0)) fNil))) fNil)) (fCons (fC .non) fNil))))))
    (fSeq (fSet 6 (fMo (fB gCat (fVar 6) (fLst (fCons (fFn 2 (r 41) (fCons (fVar 2) (fCons (fTup (fCons (fC (.str "f")) (fCons (fTup (fCons (fC (.str "f")) (fCons (fTup fNil) (fCons (fTup fNil) (fCons (fTup fNil) fNil))))) (fCons (fVar 0) (fCons (fVar 1) fNil))))) fNil))) (fCons (fFn 2 (r 40) (fCons (fVar 2) (fCons (fTup (fCons (fC (.str "f")) (fCons (fTup fNil) (fCons (fVar 0) (fCons (fTup fNil) fNil))))) fNil))) fNil))))))
    (fSeq (fSet 7 (fMv (fB gCat (fVar 7) (fLst (fCons (fTup fNil) (fCons (fC (.int 0)) fNil))))))
    (fSeq (fSet 6 (fMo (fB gCat (fVar 6) (fLst (fCons (fFn 2 (r 43) (fCons (fVar 2) (fCons (fTup (fCons (fC (.str "f")) (fCons (fVar 0) (fCons (fTup fNil) (fCons (fTup (fCons (fC (.str "f")) (fCons (fVar 0) (fCons (fVar 0) (fCons (fTup fNil) fNil))))) fNil))))) fNil))) (fCons (fFn 2 (r 40) (fCons (fVar 2) (fCons (fTup fNil) fNil))) fNil))))))
    (fSeq (fSet 7 (fMv (fB gCat (fVar 7) (fLst (fCons (fTup (fCons (fTup (fCons (fTup (fCons (fC (.int 2)) fNil)) (fCons (fC (.int 0)) fNil))) (fCons (fTup (fCons (fTup fNil) (fCons (fC (.int 0)) fNil))) fNil))) (fCons (fC .non) fNil))))))
    (fSeq (fSet 6 (fMo (fB gCat (fVar 6) (fLst (fCons (fFn 2 (r 43) (fCons (fVar 2) (fCons (fTup (fCons (fC (.str "f")) (fCons (fVar 0) (fCons (fVar 0) (fCons (fTup (fCons (fC (.str "f")) (fCons (fVar 0) (fCons (fVar 0) (fCons (fVar 0) fNil))))) fNil))))) fNil))) fNil)))))
    (fSeq (fSet 7 (fMv (fB gCat (fVar 7) (fLst (fCons (fTup fNil) fNil)))))
    (fSeq (fSet 6 (fMo (fB gCat (fVar 6) (fLst (fCons (fFn 2 (r 41) (fCons (fVar 2) (fCons (fTup (fCons (fC (.str "f")) (fCons (fVar 1) (fCons (fVar 0) (fCons (fTup fNil) fNil))))) fNil))) fNil)))))
    (fSeq (fApp 6 (fFn 2 (r 43) (fCons (fVar 2) (fCons (fTup (fCons (fC (.str "f")) (fCons (fVar 0) (fCons (fVar 1) (fCons (fTup (fCons (fC (.str "mark")) fNil)) fNil))))) fNil))))
    (fSeq (fSet 7 (fMv (fB gCat (fVar 7) (fLst (fCons (fTup fNil) (fCons (fTup (fCons (fTup (fCons (fTup fNil) (fCons (fC (.int 1)) fNil))) fNil)) fNil))))))
    (fSeq (fSet 6 (fMo (fB gCat (fVar 6) (fLst (fCons (fFn 2 (r 43) (fCons (fVar 4) (fCons (fTup (fCons (fC (.str "f")) (fCons (fTup (fCons (fC (.str "h")) (fCons (fTup (fCons (fC (.str "c")) fNil)) fNil))) fNil))) fNil))) (fCons (fFn 2 (r 40) (fCons (fVar 4) (fCons (fTup (fCons (fC (.str "f")) (fCons (fTup (fCons (fC (.str "h")) (fCons (fTup (fCons (fC (.str "c")) fNil)) fNil))) fNil))) fNil))) fNil))))))
    (fSeq (fSet 7 (fMv (fB gCat (fVar 7) (fLst (fCons (fTup (fCons (fTup (fCons (fTup (fCons (fC (.int 0)) fNil)) (fCons (fC (.int 1)) fNil))) (fCons (fTup (fCons (fTup fNil) (fCons (fC (.int 0)) fNil))) fNil))) (fCons (fC .non) fNil))))))
    (fSeq (fSet 6 (fMo (fB gCat (fVar 6) (fLst (fCons (fFn 2 (r 41) (fCons (fVar 4) (fCons (fTup (fCons (fC (.str "f")) (fCons (fVar 0) fNil))) fNil))) (fCons (fFn 2 (r 41) (fCons (fVar 4) (fCons (fTup (fCons (fC (.str "f")) (fCons (fTup fNil) fNil))) fNil))) (fCons (fFn 2 (r 41) (fCons (fVar 4) (fCons (fTup (fCons (fC (.str "f")) (fCons (fVar 0) (fCons (fTup (fCons (fC (.str "h")) (fCons (fVar 1) fNil))) fNil)))) fNil))) fNil)))))))
    (fSeq (fSet 7 (fMv (fB gCat (fVar 7) (fLst (fCons (fTup (fCons (fC (.str "f")) (fCons (fVar 0) fNil))) (fCons (fTup fNil) (fCons (fTup (fCons (fC (.str "f")) (fCons (fVar 0) (fCons (fTup fNil) fNil)))) fNil)))))))
    (fSeq (fSet 6 (fMo (fB gCat (fVar 6) (fLst (fCons (fFn 2 (r 41) (fCons (fVar 5) (fCons (fTup (fCons (fC (.str "f")) (fCons (fTup (fCons (fC (.str "g")) (fCons (fTup (fCons (fC (.str "mark")) fNil)) fNil))) (fCons (fTup fNil) fNil)))) fNil))) (fCons (fFn 2 (r 41) (fCons (fVar 5) (fCons (fTup (fCons (fC (.str "f")) (fCons (fTup (fCons (fC (.str "g")) (fCons (fTup (fCons (fC (.str "mark")) fNil)) fNil))) (fCons (fVar 1) fNil)))) fNil))) fNil))))))
    (fSeq (fSet 7 (fMv (fB gCat (fVar 7) (fLst (fCons (fTup fNil) (fCons (fTup (fCons (fC (.str "f")) (fCons (fTup (fCons (fC (.str "g")) (fCons (fTup (fCons (fC (.str "mark")) fNil)) fNil))) (fCons (fVar 1) fNil)))) fNil))))))
    (fSeq (fSet 6 (fMo (fB gCat (fVar 6) (fLst (fCons (fFn 2 (r 41) (fCons (fTup fNil) (fCons (fVar 3) fNil))) (fCons (fFn 2 (r 43) (fCons (fTup fNil) (fCons (fVar 3) fNil))) (fCons (fFn 2 (r 41) (fCons (fTup (fCons (fVar 0) fNil)) (fCons (fVar 0) fNil))) (fCons (fFn 2 (r 41) (fCons (fTup (fCons (fVar 0) fNil)) (fCons (fTup (fCons (fC (.str "g")) (fCons (fVar 0) fNil))) fNil))) fNil))))))))
    (fSeq (fSet 7 (fMv (fB gCat (fVar 7) (fLst (fCons (fVar 3) (fCons (fTup fNil) (fCons (fTup fNil) (fCons (fTup (fCons (fC (.str "g")) (fCons (fTup fNil) fNil))) fNil))))))))
    (fSeq (fSet 6 (fMo (fB gCat (fVar 6) (fLst (fCons (fFn 2 (r 41) (fCons (fVar 2) (fCons (fTup fNil) fNil))) (fCons (fFn 2 (r 42) (fCons (fVar 2) (fCons (fTup fNil) fNil))) (fCons (fFn 2 (r 42) (fCons (fTup fNil) (fCons (fVar 0) fNil))) (fCons (fFn 2 (r 43) (fCons (fVar 2) (fCons (fTup fNil) fNil))) fNil))))))))
    (fSeq (fSet 7 (fMv (fB gCat (fVar 7) (fLst (fCons (fTup fNil) (fCons (fC (.bl true)) (fCons (fC (.bl false)) (fCons (fTup fNil) fNil))))))))
    (fSeq (fSet 6 (fMo (fB gCat (fVar 6) (fLst (fCons (fFnK 2 0 2 [1, 0] (r 40) fNil (fCons (fLst (fCons (fC (.str "a")) fNil)) (fCons (fLst (fCons (fLst (fCons (fC (.str "a")) fNil)) fNil)) fNil))) (fCons (fFnK 2 0 2 [0, 1] (r 41) fNil (fCons (fTup (fCons (fTup (fCons (fC (.str "f")) (fCons (fTup fNil) fNil))) fNil)) (fCons (fLst (fCons (fC (.str "f")) (fCons (fLst (fCons (fC (.str "f")) (fCons (fLst fNil) (fCons (fLst fNil) fNil)))) fNil))) fNil))) fNil))))))
    (fSeq (fSet 6 (fMo (fB gCat (fVar 6) (fLst (fCons (fFnK 2 0 2 [1, 0] (r 43) fNil (fCons (fLst (fCons (fC (.str "g")) (fCons (fLst (fCons (fC (.str "a")) fNil)) fNil))) (fCons (fLst (fCons (fLst (fCons (fC (.str "a")) fNil)) fNil)) fNil))) (fCons (fFnK 2 0 2 [1, 0] (r 42) fNil (fCons (fLst (fCons (fC (.str "g")) (fCons (fLst (fCons (fC (.str "a")) fNil)) fNil))) (fCons (fLst (fCons (fLst (fCons (fC (.str "a")) fNil)) fNil)) fNil))) fNil))))))
    (fSeq (fSet 7 (fMv (fB gCat (fVar 7) (fLst (fCons (fC (.int 0)) (fCons (fTup fNil) (fCons (fTup (fCons (fTup (fCons (fTup (fCons (fC (.int 0)) fNil)) (fCons (fC (.int 0)) fNil))) fNil)) (fCons (fC (.bl false)) fNil))))))))
    (fSeq (fFrz 6 (fIfS (fNot (fTT (fFn 2 (r 17) (fCons (fVar 6) (fCons (fVar 7) fNil))))) (fRet (fMv (fC (.bl false)))) fNext))
    (fSeq (fSet 8 (fMo (fLst (fCons (fC (.str "f")) (fCons (fLst (fCons (fC (.str "b")) fNil)) (fCons (fLst (fCons (fC (.str "b")) fNil)) (fCons (fLst (fCons (fC (.str "g")) (fCons (fLst (fCons (fC (.str "f")) (fCons (fLst fNil) (fCons (fLst fNil) (fCons (fLst fNil) fNil))))) fNil))) fNil)))))))
    (fSeq (fSet 9 (fMv (fFrE 8 (fFn 2 (r 41) (fCons (fVar 2) (fCons (fVar 8) fNil))))))
    (fSeq (fSetIx 8 (fLst (fCons (fC (.str "a")) fNil)) (fC (.int 2)))
    (fFrz 8 (fRet (fMv (fFn 2 (r 17) (fCons (fLst (fCons (fVar 9) (fCons (fFn 2 (r 41) (fCons (fVar 2) (fCons (fVar 8) fNil))) fNil))) (fCons (fLst (fCons (fTup (fCons (fC (.str "f")) (fCons (fVar 1) (fCons (fVar 1) (fCons (fTup (fCons (fC (.str "g")) (fCons (fTup fNil) fNil))) fNil))))) (fCons (fTup (fCons (fC (.str "f")) (fCons (fVar 1) (fCons (fVar 0) (fCons (fTup (fCons (fC (.str "g")) (fCons (fTup fNil) fNil))) fNil))))) fNil))) fNil)))))))))))))))))))))))))))))))))))))
/-- _law_right -/
def b58 (r : Nat → RunF) : FS := (fSeq (fSet 1 (fMv (fFn 2 (r 50) (fCons (fVar 0) (fCons (fB gAdd (fC (.int 2)) (fFn 2 (r 12) (fCons (fVar 0) (fCons (fC (.int 3)) fNil)))) fNil)))))
    (fSeq (fSet 2 (fMv (fFnN 1 (r 52) (fCons (fVar 1) fNil))))
    (fSeq (fSet 3 (fMv (fLst (fCons (fFn 3 (r 53) (fCons (fVar 0) (fCons (fVar 1) (fCons (fC (.int 1)) fNil)))) (fCons (fFn 3 (r 53) (fCons (fVar 0) (fCons (fVar 1) (fCons (fC (.int 1)) fNil)))) (fCons (fFn 4 (r 22) (fCons (fVar 0) (fCons (fVar 2) (fCons (fC (.int 12)) (fCons (fC (.int 4)) fNil))))) fNil))))))
    (fRet (fMv (fCall gAll (fConsr (fLc (fAny (fVar 3)) (.nm 4) fYes (fFn 2 (r 56) (fCons (fVar 1) (fCons (fVar 4) fNil))) [4]) fNilr)))))))
/-- law -/
def b59 (r : Nat → RunF) : FS := (fSeq (fIfS (fNot (fTT (fFn0 (r 57)))) (fRet (fMv (fC (.bl false)))) fNext)
    (fSeq (fSet 1 (fMv (fFnN 2 (r 13) (fCons (fVar 0) (fCons (fC (.int 2)) fNil)))))
    (fRet (fMv (fCall gAll (fConsr (fLc (fRng1 (fCall gLen (fConsr (fVar 1) fNilr))) (.nm 2) fYes (fBox (r 58) (fFnN 2 (r 44) (fCons (fVar 1) (fCons (fVar 2) fNil)))) [2]) fNilr))))))
def run : Nat → Nat → RunF
  | 0, _ => fun _ _ => .bad
  | k + 1, 0 => runOf 2 (b0 (run k))
  | k + 1, 1 => runOf 2 (b1 (run k))
  | k + 1, 2 => runOf 2 (b2 (run k))
  | k + 1, 3 => runOf 2 (b3 (run k))
  | k + 1, 4 => runOf 4 (b4 (run k))
  | k + 1, 5 => runOf 4 (b5 (run k))
  | k + 1, 6 => runOf 6 (b6 (run k))
  | k + 1, 7 => runOf 4 (b7 (run k))
  | k + 1, 8 => runOf 2 (b8 (run k))
  | k + 1, 9 => runOf 3 (b9 (run k))
  | k + 1, 10 => runOf 4 (b10 (run k))
  | k + 1, 11 => runOf 3 (b11 (run k))
  | k + 1, 12 => runOf 6 (b12 (run k))
  | k + 1, 13 => runOf 6 (b13 (run k))
  | k + 1, 14 => runOf 2 (b14 (run k))
  | k + 1, 15 => runOf 6 (b15 (run k))
  | k + 1, 16 => runOf 2 (b16 (run k))
  | k + 1, 17 => runOf 4 (b17 (run k))
  | k + 1, 18 => runOf 5 (b18 (run k))
  | k + 1, 19 => runOf 4 (b19 (run k))
  | k + 1, 20 => runOf 4 (b20 (run k))
  | k + 1, 21 => runOf 12 (b21 (run k))
  | k + 1, 22 => runOf 10 (b22 (run k))
  | k + 1, 23 => runOf 0 (b23 (run k))
  | k + 1, 24 => runOf 4 (b24 (run k))
  | k + 1, 25 => runOf 4 (b25 (run k))
  | k + 1, 26 => runOf 4 (b26 (run k))
  | k + 1, 27 => runOf 6 (b27 (run k))
  | k + 1, 28 => runOf 3 (b28 (run k))
  | k + 1, 29 => runOf 3 (b29 (run k))
  | k + 1, 30 => runOf 2 (b30 (run k))
  | k + 1, 31 => runOf 13 (b31 (run k))
  | k + 1, 32 => runOf 0 (b32 (run k))
  | k + 1, 33 => runOf 17 (b33 (run k))
  | k + 1, 34 => runOf 5 (b34 (run k))
  | k + 1, 35 => runOf 9 (b35 (run k))
  | k + 1, 36 => runOf 3 (b36 (run k))
  | k + 1, 37 => runOf 4 (b37 (run k))
  | k + 1, 38 => runOf 9 (b38 (run k))
  | k + 1, 39 => runOf 3 (b39 (run k))
  | k + 1, 40 => runOf 2 (b40 (run k))
  | k + 1, 41 => runOf 2 (b41 (run k))
  | k + 1, 42 => runOf 2 (b42 (run k))
  | k + 1, 43 => runOf 2 (b43 (run k))
  | k + 1, 44 => runOf 3 (b44 (run k))
  | k + 1, 45 => runOf 4 (b45 (run k))
  | k + 1, 46 => runOf 5 (b46 (run k))
  | k + 1, 47 => runOf 3 (b47 (run k))
  | k + 1, 48 => runOf 6 (b48 (run k))
  | k + 1, 49 => runOf 6 (b49 (run k))
  | k + 1, 50 => runOf 6 (b50 (run k))
  | k + 1, 51 => runOf 2 (b51 (run k))
  | k + 1, 52 => runOf 4 (b52 (run k))
  | k + 1, 53 => runOf 7 (b53 (run k))
  | k + 1, 54 => runOf 5 (b54 (run k))
  | k + 1, 55 => runOf 9 (b55 (run k))
  | k + 1, 56 => runOf 9 (b56 (run k))
  | k + 1, 57 => runOf 10 (b57 (run k))
  | k + 1, 58 => runOf 5 (b58 (run k))
  | k + 1, 59 => runOf 3 (b59 (run k))
  | _ + 1, _ => fun _ _ => .bad
end Kx

set_option linter.all false
set_option maxRecDepth 100000
set_option maxHeartbeats 4000000
namespace Kx
open PySem Q
/-- forms -/
inductive Fm where
  | op
  | nd (s : Str) (ps : List Fm)
mutual
/-- the depth -/
def Fm.dp : Fm → Nat
  | .op => 0
  | .nd _ ps => Fm.dps ps + 1
def Fm.dps : List Fm → Nat
  | [] => 0
  | p :: ps => max (Fm.dp p) (Fm.dps ps)
end
/-- as tuples (false), as lists (true) -/
def sqd : Bool → List D → D
  | true, ds => .lst ds
  | false, ds => .tup ds
mutual
def Fm.d (b : Bool) : Fm → D
  | .op => sqd b []
  | .nd s ps => sqd b (.str s :: Fm.ds b ps)
def Fm.ds (b : Bool) : List Fm → List D
  | [] => []
  | p :: ps => Fm.d b p :: Fm.ds b ps
end
theorem ds_len (b : Bool) : ∀ ps : List Fm, (Fm.ds b ps).length = ps.length
  | [] => rfl
  | p :: ps => congrArg (· + 1) (ds_len b ps)
def small (ps : List Fm) : Prop := ps.length ≤ 1000
mutual
/-- few parts everywhere -/
def Fm.few : Fm → Bool
  | .op => true
  | .nd _ ps => decide (ps.length ≤ 1000) && Fm.fews ps
def Fm.fews : List Fm → Bool
  | [] => true
  | p :: ps => Fm.few p && Fm.fews ps
end
theorem dps_mem : ∀ {ps : List Fm} {p : Fm}, p ∈ ps → p.dp ≤ Fm.dps ps
  | q :: ps, p, h => by
    simp only [Fm.dps]
    rcases List.mem_cons.mp h with e | h
    · subst e; omega
    · have := dps_mem h; omega


theorem n1_ne (n : Nat) : ((n : Int) + 1 = 0) = False := by
  simp only [eq_iff_iff, iff_false]; omega
theorem n1_beq (n : Nat) : ((n : Int) + 1 == 0) = false := by
  simp only [beq_eq_false_iff_ne]; omega
theorem n1_bne (n : Nat) : ((n : Int) + 1 != 0) = true := by
  simp only [bne_iff_ne]; omega
theorem n1_pos (n : Nat) : (0 ≤ (n : Int) + 1) = True := by
  simp only [eq_iff_iff, iff_true]; omega
theorem cut1 {α : Type} (d : α) (ds : List α) : cut (d :: ds) (some 1) none = ds := by
  have h : min (1 : Int).toNat (ds.length + 1) = 1 := by
    have : (1 : Int).toNat = 1 := rfl
    omega
  simp [cut, HT.sIx, h]
theorem srcD_sq (b : Bool) (ds : List D) : srcD (sqd b ds) = some ds := by cases b <;> rfl
local macro_rules | `(tactic| simp_arith [$as,*] $[$l]?) => `(tactic| simp [runOf, envOf, fSeq, fIfS, fTB, fB, gEq, gNe, gGt, gLt, gLe, gGe, gIB, fVar, fC, gIx, sq, Res.bind, Res.to, L2.atI, L2.ixN, fSet, fMv, fMo, fSetIx, fRet, gMod, gDiv, gI, gAdd, gMul, fCall, fConsr, fNilr, gInt, getL, putL, SqD.items, fOr, fAnd, fOrV, fAndV, fNotV, fNot, fTT, tru, fFn, fCons, fNil, fNext, gLen, rd, fYes, wipeE, Tg.bind, Tg.binds, Res.nx, fZp, srcD, zipD, fSl, gSl, fSomeO, fNoO, fTup, fLst, fLc, List.replicate, D.scal2, D.eq, D.eqs, D.plain, D.plains, D.dep, D.deps, LIM, n1_ne, n1_beq, n1_bne, n1_pos, cut1, srcD_sq, fIf, gTuple, gList, fRaise, gIsN, gNotN, RV.isN, fIsi, tyName, fAny, $as,*] $[$l]?)
def unl (s : Str) (n : Nat) (t : Str) (m : Nat) : Bool := decide (n ≠ m) || decide (s ≠ t)
theorem unl_ok (k : Nat) (b b' : Bool) (s t : Str) (ps qs : List Fm) (μ : Mu) : run (k+1) 3 [(Fm.nd s ps).d b, (Fm.nd t qs).d b'] μ = .ok (.val (.bl (unl s ps.length t qs.length))) μ := by
  have e : run (k+1) 3 = runOf 2 (b3 (run k)) := rfl
  rw [e]
  by_cases h : ps.length = qs.length
  · cases b <;> cases b' <;> (simp_arith [b3, Fm.d, sqd, ds_len, unl, h, bne]; cases hs : s == t <;> simp_all)
  · have h' : ((ps.length : Int) + 1 == (qs.length : Int) + 1) = false := by simp; omega
    cases b <;> cases b' <;> simp_arith [b3, Fm.d, sqd, ds_len, unl, h, h']
mutual
def lies : Fm → Fm → Bool
  | .op, _ => true
  | .nd _ _, .op => false
  | .nd s ps, .nd t qs => if unl s ps.length t qs.length then false else liesA ps qs
def liesA : List Fm → List Fm → Bool
  | p :: ps, q :: qs => lies p q && liesA ps qs
  | _, _ => true
end
theorem zip_loop (b b' : Bool) (r : RunF) (F : Fm → Fm → D) (x y : EV) (μ : Mu) : ∀ (ps qs : List Fm) (acc : List D), (∀ p ∈ ps, ∀ q ∈ qs, r [p.d b, q.d b'] μ = .ok (.val (F p q)) μ) →
    lcLoop (.tp [.nm 2, .nm 3]) fYes (fFn 2 r (fCons (fVar 2) (fCons (fVar 3) fNil))) [x, y, .un, .un] (zipD (Fm.ds b ps) (Fm.ds b' qs)) μ acc = .ok (acc ++ List.zipWith F ps qs) μ
  | [], qs, acc, _ => by simp_arith [Fm.ds, lcLoop]
  | p :: ps, [], acc, _ => by simp_arith [Fm.ds, lcLoop]
  | p :: ps, q :: qs, acc, h => by
    have h1 := h p List.mem_cons_self q List.mem_cons_self
    have ih := zip_loop b b' r F x y μ ps qs (acc ++ [F p q]) fun p hp q hq => h p (List.mem_cons_of_mem _ hp) q (List.mem_cons_of_mem _ hq)
    simp_arith [fFn] at ih
    simp_arith [Fm.ds, lcLoop, h1, ih]
theorem zipD_small (b b' : Bool) (ps qs : List Fm) (h : ps.length ≤ 1000) : (zipD (Fm.ds b ps) (Fm.ds b' qs)).length ≤ 16777216 := by
  rw [zipD_len, ds_len, ds_len]; omega
theorem bls_map : ∀ l : List Bool, bls (l.map .bl) = some l
  | [] => rfl
  | b :: l => by simp_arith [bls, bls_map l]
theorem bls_zip (F : Fm → Fm → Bool) : ∀ ps qs : List Fm, bls (List.zipWith (fun p q => D.bl (F p q)) ps qs) = some (List.zipWith F ps qs)
  | [], _ => by simp_arith [bls]
  | _ :: _, [] => by simp_arith [bls]
  | p :: ps, q :: qs => by simp_arith [bls, bls_zip F ps qs]
theorem liesA_zip : ∀ ps qs : List Fm, (List.zipWith lies ps qs).all id = liesA ps qs
  | [], _ => by simp_arith [liesA]
  | _ :: _, [] => by simp_arith [liesA]
  | p :: ps, q :: qs => by simp_arith [liesA, liesA_zip ps qs]
theorem fews_mem : ∀ {ps : List Fm} {p : Fm}, Fm.fews ps = true → p ∈ ps → p.few = true
  | q :: ps, p, h, m => by
    simp only [Fm.fews, Bool.and_eq_true] at h
    rcases List.mem_cons.mp m with e | m
    · rw [e]; exact h.1
    · exact fews_mem h.2 m
theorem lies_ok : ∀ (k : Nat) (b : Bool) (f g : Fm) (μ : Mu), f.dp + 2 ≤ k → f.few = true → run k 4 [f.d b, g.d b] μ = .ok (.val (.bl (lies f g))) μ
  | 0, _, _, _, _, h, _ => by omega
  | k + 1, b, f, g, μ, hk, hf => by
    have e : run (k+1) 4 = runOf 4 (b4 (run k)) := rfl
    rw [e]
    cases f with
    | op => cases b <;> simp_arith [b4, Fm.d, sqd, lies]
    | nd s ps =>
      cases g with
      | op => cases b <;> simp_arith [b4, Fm.d, sqd, lies, ds_len]
      | nd t qs =>
        obtain ⟨k, rfl⟩ : ∃ j, k = j + 1 := ⟨k - 1, by simp_arith [Fm.dp] at hk; omega⟩
        have u := unl_ok k b b s t ps qs μ
        cases hu : unl s ps.length t qs.length with
        | true =>
          rw [hu] at u
          cases b <;> (simp_arith [Fm.d, sqd] at u; simp_arith [b4, Fm.d, sqd, lies, ds_len, u, hu])
        | false =>
          rw [hu] at u
          have hf2 : ps.length ≤ 1000 ∧ Fm.fews ps = true := by simpa [Fm.few] using hf
          have L := zip_loop b b (run (k+1) 4) (fun p q => .bl (lies p q)) (.val ((Fm.nd s ps).d b)) (.val ((Fm.nd t qs).d b)) μ ps qs [] fun p hp q _ => lies_ok (k+1) b p q μ (by have := dps_mem hp; simp only [Fm.dp] at hk; omega) (fews_mem hf2.2 hp)
          have z := zipD_small b b ps qs hf2.1
          have w := bls_zip lies ps qs
          have v := liesA_zip ps qs
          cases b <;> (simp_arith [Fm.d, sqd] at u L; simp_arith [b4, Fm.d, sqd, lies, ds_len, u, hu, L, z, gAll, gBls, w, v])
end Kx

set_option linter.all false
set_option maxRecDepth 100000
set_option maxHeartbeats 4000000
namespace Kx
open PySem Q
local macro_rules | `(tactic| simp_arith [$as,*] $[$l]?) => `(tactic| simp [runOf, envOf, fSeq, fIfS, fTB, fB, gEq, gNe, gGt, gLt, gLe, gGe, gIB, fVar, fC, gIx, sq, Res.bind, Res.to, L2.atI, L2.ixN, fSet, fMv, fMo, fSetIx, fRet, gMod, gDiv, gI, gAdd, gMul, fCall, fConsr, fNilr, gInt, getL, putL, SqD.items, fOr, fAnd, fOrV, fAndV, fNotV, fNot, fTT, tru, fFn, fCons, fNil, fNext, gLen, rd, fYes, wipeE, Tg.bind, Tg.binds, Res.nx, fZp, srcD, zipD, fSl, gSl, fSomeO, fNoO, fTup, fLst, fLc, List.replicate, D.scal2, D.eq, D.eqs, D.plain, D.plains, D.dep, D.deps, LIM, n1_ne, n1_beq, n1_bne, n1_pos, cut1, srcD_sq, fIf, gTuple, gList, fRaise, gIsN, gNotN, RV.isN, fIsi, tyName, fAny, $as,*] $[$l]?)
mutual
def agr : Fm → Fm → Bool
  | .op, _ => true
  | .nd _ _, .op => true
  | .nd s ps, .nd t qs => if unl s ps.length t qs.length then false else agrA ps qs
def agrA : List Fm → List Fm → Bool
  | p :: ps, q :: qs => agr p q && agrA ps qs
  | _, _ => true
end
theorem agrA_zip : ∀ ps qs : List Fm, (List.zipWith agr ps qs).all id = agrA ps qs
  | [], _ => by simp_arith [agrA]
  | _ :: _, [] => by simp_arith [agrA]
  | p :: ps, q :: qs => by simp_arith [agrA, agrA_zip ps qs]
theorem agr_ok : ∀ (k : Nat) (b b' : Bool) (f g : Fm) (μ : Mu), f.dp + 2 ≤ k → f.few = true → run k 5 [f.d b, g.d b'] μ = .ok (.val (.bl (agr f g))) μ
  | 0, _, _, _, _, _, h, _ => by omega
  | k + 1, b, b', f, g, μ, hk, hf => by
    have e : run (k+1) 5 = runOf 4 (b5 (run k)) := rfl
    rw [e]
    cases f with
    | op => cases b <;> cases b' <;> simp_arith [b5, Fm.d, sqd, agr]
    | nd s ps =>
      cases g with
      | op => cases b <;> cases b' <;> simp_arith [b5, Fm.d, sqd, agr, ds_len]
      | nd t qs =>
        obtain ⟨k, rfl⟩ : ∃ j, k = j + 1 := ⟨k - 1, by simp_arith [Fm.dp] at hk; omega⟩
        have u := unl_ok k b b' s t ps qs μ
        cases hu : unl s ps.length t qs.length with
        | true =>
          rw [hu] at u
          cases b <;> cases b' <;> (simp_arith [Fm.d, sqd] at u; simp_arith [b5, Fm.d, sqd, agr, ds_len, u, hu])
        | false =>
          rw [hu] at u
          have hf2 : ps.length ≤ 1000 ∧ Fm.fews ps = true := by simpa [Fm.few] using hf
          have L := zip_loop b b' (run (k+1) 5) (fun p q => .bl (agr p q)) (.val ((Fm.nd s ps).d b)) (.val ((Fm.nd t qs).d b')) μ ps qs [] fun p hp q _ => agr_ok (k+1) b b' p q μ (by have := dps_mem hp; simp only [Fm.dp] at hk; omega) (fews_mem hf2.2 hp)
          have z := zipD_small b b' ps qs hf2.1
          have w := bls_zip agr ps qs
          have v := agrA_zip ps qs
          cases b <;> cases b' <;> (simp_arith [Fm.d, sqd] at u L; simp_arith [b5, Fm.d, sqd, agr, ds_len, u, hu, L, z, gAll, gBls, w, v])
/-! ### tuples of tuples -/
mutual
def joi : Fm → Fm → Fm
  | .op, g => g
  | .nd s ps, .op => .nd s ps
  | .nd s ps, .nd _ qs => .nd s (joiA ps qs)
def joiA : List Fm → List Fm → List Fm
  | p :: ps, q :: qs => joi p q :: joiA ps qs
  | _, _ => []
end
mutual
def mee : Fm → Fm → Fm
  | .op, _ => .op
  | .nd _ _, .op => .op
  | .nd s ps, .nd t qs => if unl s ps.length t qs.length then .op else .nd s (meeA ps qs)
def meeA : List Fm → List Fm → List Fm
  | p :: ps, q :: qs => mee p q :: meeA ps qs
  | _, _ => []
end
theorem ds_zip (b : Bool) (F : Fm → Fm → Fm) (A : List Fm → List Fm → List Fm) (h0 : ∀ ps qs, ps = [] ∨ qs = [] → A ps qs = []) (h1 : ∀ p ps q qs, A (p :: ps) (q :: qs) = F p q :: A ps qs) : ∀ ps qs : List Fm, List.zipWith (fun p q => (F p q).d b) ps qs = Fm.ds b (A ps qs)
  | [], qs => by simp_arith [h0 [] qs (.inl rfl), Fm.ds]
  | p :: ps, [] => by simp_arith [h0 (p :: ps) [] (.inr rfl), Fm.ds]
  | p :: ps, q :: qs => by simp_arith [h1, Fm.ds, ds_zip b F A h0 h1 ps qs]
theorem A_len (F : Fm → Fm → Fm) (A : List Fm → List Fm → List Fm) (h0 : ∀ ps qs, ps = [] ∨ qs = [] → A ps qs = []) (h1 : ∀ p ps q qs, A (p :: ps) (q :: qs) = F p q :: A ps qs) : ∀ ps qs : List Fm, (A ps qs).length = min ps.length qs.length
  | [], qs => by simp_arith [h0 [] qs (.inl rfl)]
  | p :: ps, [] => by simp_arith [h0 (p :: ps) [] (.inr rfl)]
  | p :: ps, q :: qs => by simp_arith [h1, A_len F A h0 h1 ps qs]
theorem joiA0 : ∀ ps qs, ps = [] ∨ qs = [] → joiA ps qs = [] := fun ps qs h => by rcases h with e | e <;> subst e <;> (try cases ps) <;> simp_arith [joiA]
theorem meeA0 : ∀ ps qs, ps = [] ∨ qs = [] → meeA ps qs = [] := fun ps qs h => by rcases h with e | e <;> subst e <;> (try cases ps) <;> simp_arith [meeA]
theorem joi_ok : ∀ (k : Nat) (f g : Fm) (μ : Mu), f.dp + 2 ≤ k → f.few = true → run k 7 [f.d false, g.d false] μ = .ok (.val ((joi f g).d false)) μ
  | 0, _, _, _, h, _ => by omega
  | k + 1, f, g, μ, hk, hf => by
    have e : run (k+1) 7 = runOf 4 (b7 (run k)) := rfl
    rw [e]
    cases f with
    | op => simp_arith [b7, Fm.d, sqd, joi]
    | nd s ps =>
      cases g with
      | op => simp_arith [b7, Fm.d, sqd, joi, ds_len]
      | nd t qs =>
        have hf2 : ps.length ≤ 1000 ∧ Fm.fews ps = true := by simpa [Fm.few] using hf
        have L := zip_loop false false (run k 7) (fun p q => (joi p q).d false) (.val ((Fm.nd s ps).d false)) (.val ((Fm.nd t qs).d false)) μ ps qs [] fun p hp q _ => joi_ok k p q μ (by have := dps_mem hp; simp only [Fm.dp] at hk; omega) (fews_mem hf2.2 hp)
        have z := zipD_small false false ps qs hf2.1
        rw [ds_zip false joi joiA joiA0 (fun _ _ _ _ => rfl)] at L
        have l := A_len joi joiA joiA0 (fun _ _ _ _ => rfl) ps qs
        have l2 : 1 + (joiA ps qs).length ≤ 16777216 := by omega
        simp_arith [Fm.d, sqd] at L
        simp_arith [b7, Fm.d, sqd, joi, ds_len, L, z, l2]
theorem mee_ok : ∀ (k : Nat) (b : Bool) (f g : Fm) (μ : Mu), f.dp + 2 ≤ k → f.few = true → run k 10 [f.d b, g.d b] μ = .ok (.val ((mee f g).d false)) μ
  | 0, _, _, _, _, h, _ => by omega
  | k + 1, b, f, g, μ, hk, hf => by
    have e : run (k+1) 10 = runOf 4 (b10 (run k)) := rfl
    rw [e]
    cases f with
    | op => cases b <;> simp_arith [b10, Fm.d, sqd, mee]
    | nd s ps =>
      cases g with
      | op => cases b <;> simp_arith [b10, Fm.d, sqd, mee, ds_len]
      | nd t qs =>
        obtain ⟨k, rfl⟩ : ∃ j, k = j + 1 := ⟨k - 1, by simp_arith [Fm.dp] at hk; omega⟩
        have u := unl_ok k b b s t ps qs μ
        cases hu : unl s ps.length t qs.length with
        | true =>
          rw [hu] at u
          cases b <;> (simp_arith [Fm.d, sqd] at u; simp_arith [b10, Fm.d, sqd, mee, ds_len, u, hu])
        | false =>
          rw [hu] at u
          have hf2 : ps.length ≤ 1000 ∧ Fm.fews ps = true := by simpa [Fm.few] using hf
          have L := zip_loop b b (run (k+1) 10) (fun p q => (mee p q).d false) (.val ((Fm.nd s ps).d b)) (.val ((Fm.nd t qs).d b)) μ ps qs [] fun p hp q _ => mee_ok (k+1) b p q μ (by have := dps_mem hp; simp only [Fm.dp] at hk; omega) (fews_mem hf2.2 hp)
          have z := zipD_small b b ps qs hf2.1
          rw [ds_zip false mee meeA meeA0 (fun _ _ _ _ => rfl)] at L
          have l := A_len mee meeA meeA0 (fun _ _ _ _ => rfl) ps qs
          have l2 : 1 + (meeA ps qs).length ≤ 16777216 := by omega
          cases b <;> (simp_arith [Fm.d, sqd] at u L; simp_arith [b10, Fm.d, sqd, mee, ds_len, u, hu, L, z, l2])
end Kx

set_option linter.all false
set_option maxRecDepth 100000
set_option maxHeartbeats 4000000
namespace Kx
open PySem Q
local macro_rules | `(tactic| simp_arith [$as,*] $[$l]?) => `(tactic| simp [runOf, envOf, fSeq, fIfS, fTB, fB, gEq, gNe, gGt, gLt, gLe, gGe, gIB, fVar, fC, gIx, sq, Res.bind, Res.to, L2.atI, L2.ixN, fSet, fMv, fMo, fSetIx, fRet, gMod, gDiv, gI, gAdd, gMul, fCall, fConsr, fNilr, gInt, getL, putL, SqD.items, fOr, fAnd, fOrV, fAndV, fNotV, fNot, fTT, tru, fFn, fCons, fNil, fNext, gLen, rd, fYes, wipeE, Tg.bind, Tg.binds, Res.nx, fZp, srcD, zipD, fSl, gSl, fSomeO, fNoO, fTup, fLst, fLc, List.replicate, D.scal2, D.eq, D.eqs, D.plain, D.plains, D.dep, D.deps, LIM, n1_ne, n1_beq, n1_bne, n1_pos, cut1, srcD_sq, fIf, gTuple, gList, fRaise, gIsN, gNotN, RV.isN, fIsi, isi, subTy, tyGo, tyName, fAny, $as,*] $[$l]?)
/-- f over a row of forms, one name -/
theorem row_loop (b : Bool) (r : RunF) (F : Fm → D) (x : EV) (μ : Mu) : ∀ (ps : List Fm) (acc : List D), (∀ p ∈ ps, r [p.d b] μ = .ok (.val (F p)) μ) →
    lcLoop (.nm 1) fYes (fFn 1 r (fCons (fVar 1) fNil)) [x, .un] (Fm.ds b ps) μ acc = .ok (acc ++ ps.map F) μ
  | [], acc, _ => by simp_arith [Fm.ds, lcLoop]
  | p :: ps, acc, h => by
    have h1 := h p List.mem_cons_self
    have ih := row_loop b r F x μ ps (acc ++ [F p]) fun p hp => h p (List.mem_cons_of_mem _ hp)
    simp_arith [] at ih
    simp_arith [Fm.ds, lcLoop, h1, ih]
theorem ds_map (b : Bool) : ∀ ps : List Fm, ps.map (fun p => p.d b) = Fm.ds b ps
  | [] => rfl
  | p :: ps => by simp [Fm.ds, ds_map b ps]
theorem tup_str (k : Nat) (s : Str) (μ : Mu) : run (k+1) 1 [.str s] μ = .ok (.val (.str s)) μ := by
  have e : run (k+1) 1 = runOf 2 (b1 (run k)) := rfl
  rw [e]
  simp_arith [b1]
theorem tup_ok : ∀ (k : Nat) (b : Bool) (f : Fm) (μ : Mu), f.dp + 2 ≤ k → f.few = true → run k 1 [f.d b] μ = .ok (.val (f.d false)) μ
  | 0, _, _, _, h, _ => by omega
  | k + 1, b, f, μ, hk, hf => by
    have e : run (k+1) 1 = runOf 2 (b1 (run k)) := rfl
    rw [e]
    cases f with
    | op => cases b <;> simp_arith [b1, Fm.d, sqd, lcLoop]
    | nd s ps =>
      obtain ⟨k, rfl⟩ : ∃ j, k = j + 1 := ⟨k - 1, by simp [Fm.dp] at hk; omega⟩
      have hf2 : ps.length ≤ 1000 ∧ Fm.fews ps = true := by simpa [Fm.few] using hf
      have L := row_loop b (run (k+1) 1) (fun p => p.d false) (.val ((Fm.nd s ps).d b)) μ ps [.str s] fun p hp => tup_ok (k+1) b p μ (by have := dps_mem hp; simp only [Fm.dp] at hk; omega) (fews_mem hf2.2 hp)
      rw [ds_map] at L
      have u := tup_str k s μ
      have z : (Fm.ds b ps).length + 1 ≤ 16777216 := by rw [ds_len]; omega
      cases b <;> (simp_arith [Fm.d, sqd] at L; simp_arith [b1, Fm.d, sqd, lcLoop, u, L, z])
theorem lst_str (k : Nat) (s : Str) (μ : Mu) : run (k+1) 16 [.str s] μ = .ok (.val (.str s)) μ := by
  have e : run (k+1) 16 = runOf 2 (b16 (run k)) := rfl
  rw [e]
  simp_arith [b16]
theorem lst_ok : ∀ (k : Nat) (b : Bool) (f : Fm) (μ : Mu), f.dp + 2 ≤ k → f.few = true → run k 16 [f.d b] μ = .ok (.val (f.d true)) μ
  | 0, _, _, _, h, _ => by omega
  | k + 1, b, f, μ, hk, hf => by
    have e : run (k+1) 16 = runOf 2 (b16 (run k)) := rfl
    rw [e]
    cases f with
    | op => cases b <;> simp_arith [b16, Fm.d, sqd, lcLoop]
    | nd s ps =>
      obtain ⟨k, rfl⟩ : ∃ j, k = j + 1 := ⟨k - 1, by simp [Fm.dp] at hk; omega⟩
      have hf2 : ps.length ≤ 1000 ∧ Fm.fews ps = true := by simpa [Fm.few] using hf
      have L := row_loop b (run (k+1) 16) (fun p => p.d true) (.val ((Fm.nd s ps).d b)) μ ps [.str s] fun p hp => lst_ok (k+1) b p μ (by have := dps_mem hp; simp only [Fm.dp] at hk; omega) (fews_mem hf2.2 hp)
      rw [ds_map] at L
      have u := lst_str k s μ
      have z : (Fm.ds b ps).length + 1 ≤ 16777216 := by rw [ds_len]; omega
      cases b <;> (simp_arith [Fm.d, sqd] at L; simp_arith [b16, Fm.d, sqd, lcLoop, u, L, z])
/-- lists of forms -/
theorem lsts_ok (k : Nat) (c b : Bool) (ps : List Fm) (μ : Mu) (hk : Fm.dps ps + 3 ≤ k) (hf : Fm.fews ps = true) (hl : ps.length ≤ 1000) : run k 16 [sqd c (Fm.ds b ps)] μ = .ok (.val (.lst (Fm.ds true ps))) μ := by
  obtain ⟨k, rfl⟩ : ∃ j, k = j + 1 := ⟨k - 1, by omega⟩
  have e : run (k+1) 16 = runOf 2 (b16 (run k)) := rfl
  rw [e]
  have L := row_loop b (run k 16) (fun p => p.d true) (.val (sqd c (Fm.ds b ps))) μ ps [] fun p hp => lst_ok k b p μ (by have := dps_mem hp; omega) (fews_mem hf hp)
  rw [ds_map] at L
  have z : (Fm.ds b ps).length ≤ 16777216 := by rw [ds_len]; omega
  cases c <;> (simp_arith [sqd] at L; simp_arith [b16, sqd, L, z])
/-! ### joined -/
mutual
theorem joi_few : ∀ f g : Fm, f.few = true → g.few = true → (joi f g).few = true
  | .op, g, _, hg => by simp only [joi]; exact hg
  | .nd s ps, .op, hf, _ => by simp only [joi]; exact hf
  | .nd s ps, .nd t qs, hf, hg => by
    simp only [Fm.few, Bool.and_eq_true, decide_eq_true_eq] at hf hg
    have l := A_len joi joiA joiA0 (fun _ _ _ _ => by simp [joiA]) ps qs
    simp only [joi, Fm.few, Bool.and_eq_true, decide_eq_true_eq]
    exact ⟨by omega, joiA_few ps qs hf.2 hg.2⟩
theorem joiA_few : ∀ ps qs : List Fm, Fm.fews ps = true → Fm.fews qs = true → Fm.fews (joiA ps qs) = true
  | [], _, _, _ => by simp [joiA, Fm.fews]
  | _ :: _, [], _, _ => by simp [joiA, Fm.fews]
  | p :: ps, q :: qs, hp, hq => by
    simp only [Fm.fews, Bool.and_eq_true] at hp hq
    simp only [joiA, Fm.fews, Bool.and_eq_true]
    exact ⟨joi_few p q hp.1 hq.1, joiA_few ps qs hp.2 hq.2⟩
end
mutual
theorem joi_dp : ∀ f g : Fm, (joi f g).dp ≤ max f.dp g.dp
  | .op, g => by simp only [joi]; omega
  | .nd s ps, .op => by simp only [joi]; omega
  | .nd s ps, .nd t qs => by
    have := joiA_dp ps qs
    simp only [joi, Fm.dp]
    omega
theorem joiA_dp : ∀ ps qs : List Fm, Fm.dps (joiA ps qs) ≤ max (Fm.dps ps) (Fm.dps qs)
  | [], _ => by simp [joiA, Fm.dps]
  | _ :: _, [] => by simp [joiA, Fm.dps]
  | p :: ps, q :: qs => by
    have h1 := joi_dp p q
    have h2 := joiA_dp ps qs
    simp only [joiA, Fm.dps]
    omega
end
theorem jnd_ok (k : Nat) (b b' : Bool) (f g : Fm) (μ : Mu) (hk : f.dp + 3 ≤ k ∧ g.dp + 3 ≤ k) (hf : f.few = true) (hg : g.few = true) : run k 8 [f.d b, g.d b'] μ = if agr f g then .ok (.val ((joi f g).d false)) μ else .exc ⟨0, []⟩ μ := by
  obtain ⟨k, rfl⟩ : ∃ j, k = j + 1 := ⟨k - 1, by omega⟩
  have e : run (k+1) 8 = runOf 2 (b8 (run k)) := rfl
  rw [e]
  have h1 := agr_ok k b b' f g μ (by omega) hf
  have h2 := tup_ok k b f μ (by omega) hf
  have h3 := tup_ok k b' g μ (by omega) hg
  have h4 := joi_ok k f g μ (by omega) hf
  cases ha : agr f g with
  | true =>
    rw [ha] at h1
    simp_arith [b8, h1, h2, h3, h4]
  | false =>
    rw [ha] at h1
    simp_arith [b8, h1]
end Kx

set_option linter.all false
set_option maxRecDepth 100000
set_option maxHeartbeats 4000000
namespace Kx
open PySem Q
local macro_rules | `(tactic| simp_arith [$as,*] $[$l]?) => `(tactic| simp [runOf, envOf, fSeq, fIfS, fTB, fB, gEq, gNe, gGt, gLt, gLe, gGe, gIB, fVar, fC, gIx, sq, Res.bind, Res.to, L2.atI, L2.ixN, fSet, fMv, fMo, fSetIx, fRet, gMod, gDiv, gI, gAdd, gMul, fCall, fConsr, fNilr, gInt, getL, putL, SqD.items, fOr, fAnd, fOrV, fAndV, fNotV, fNot, fTT, tru, fFn, fCons, fNil, fNext, gLen, rd, fYes, wipeE, Tg.bind, Tg.binds, Res.nx, fZp, srcD, zipD, fSl, gSl, fSomeO, fNoO, fTup, fLst, fLc, List.replicate, D.scal2, D.eq, D.eqs, D.plain, D.plains, D.dep, D.deps, LIM, n1_ne, n1_beq, n1_bne, n1_pos, cut1, srcD_sq, fIf, gTuple, gList, fRaise, gIsN, gNotN, RV.isN, fIsi, isi, subTy, tyGo, tyName, fAny, $as,*] $[$l]?)
/-- one behind another -/
def foldJ : Fm → List Fm → Option Fm
  | acc, [] => some acc
  | acc, p :: ps => if agr acc p then foldJ (joi acc p) ps else none
theorem all_loop (k : Nat) (b : Bool) (x : EV) (μ : Mu) (n : Nat) (hk : n + 3 ≤ k) : ∀ (ps : List Fm) (acc : Fm) (y : EV), acc.dp ≤ n → acc.few = true → Fm.dps ps ≤ n → Fm.fews ps = true →
    match foldJ acc ps with
    | some f => ∃ y', loop (.nm 2) (fSet 1 (fMv (fFn 2 (run k 8) (fCons (fVar 1) (fCons (fVar 2) fNil))))) (Fm.ds b ps) [x, .val (acc.d false), y] μ = .nxt [x, .val (f.d false), y'] μ
    | none => ∃ e, loop (.nm 2) (fSet 1 (fMv (fFn 2 (run k 8) (fCons (fVar 1) (fCons (fVar 2) fNil))))) (Fm.ds b ps) [x, .val (acc.d false), y] μ = .exc ⟨0, []⟩ e μ
  | [], acc, y, _, _, _, _ => by
    simp only [foldJ]
    exact ⟨y, by simp [loop, Fm.ds]⟩
  | p :: ps, acc, y, ha, hf, hd, hp => by
    simp only [Fm.dps] at hd
    simp only [Fm.fews, Bool.and_eq_true] at hp
    have h1 := jnd_ok k false b acc p μ (by omega) hf hp.1
    simp only [foldJ]
    cases hag : agr acc p with
    | false =>
      rw [hag] at h1
      simp only [Bool.false_eq_true, if_false] at h1 ⊢
      exact ⟨_, by simp_arith [loop, Fm.ds, h1]; rfl⟩
    | true =>
      rw [hag] at h1
      simp only [if_true] at h1 ⊢
      have ih := all_loop k b x μ n hk ps (joi acc p) (.val (p.d b)) (by have := joi_dp acc p; omega) (joi_few acc p hf hp.1) (by omega) hp.2
      cases hj : foldJ (joi acc p) ps with
      | none =>
        rw [hj] at ih
        obtain ⟨e, ih⟩ := ih
        exact ⟨e, by simp_arith [loop, Fm.ds, h1]; exact ih⟩
      | some f =>
        rw [hj] at ih
        obtain ⟨y', ih⟩ := ih
        exact ⟨y', by simp_arith [loop, Fm.ds, h1]; exact ih⟩
theorem any_sq (b : Bool) (i : Nat) (env : En) (ds : List D) (μ : Mu) (h : env[i]? = some (.val (sqd b ds))) : fAny (fVar i) env μ = .ok ds μ := by
  cases b <;> simp [fAny, fVar, h, sqd]
theorem jall_ok (k : Nat) (c b : Bool) (ps : List Fm) (μ : Mu) (hk : Fm.dps ps + 4 ≤ k) (hf : Fm.fews ps = true) : run k 9 [sqd c (Fm.ds b ps)] μ = match foldJ .op ps with | some f => .ok (.val (f.d false)) μ | none => .exc ⟨0, []⟩ μ := by
  obtain ⟨k, rfl⟩ : ∃ j, k = j + 1 := ⟨k - 1, by omega⟩
  have e : run (k+1) 9 = runOf 3 (b9 (run k)) := rfl
  rw [e]
  have L := all_loop k b (.val (sqd c (Fm.ds b ps))) μ (Fm.dps ps) (by omega) ps .op .un (by simp [Fm.dp]) (by simp [Fm.few]) (Nat.le_refl _) hf
  cases hj : foldJ .op ps with
  | none =>
    rw [hj] at L
    obtain ⟨e, L⟩ := L
    cases c <;> (simp_arith [Fm.d, sqd] at L; simp_arith [b9, fFor, Fm.d, sqd, L])
  | some f =>
    rw [hj] at L
    obtain ⟨y, L⟩ := L
    cases c <;> (simp_arith [Fm.d, sqd] at L; simp_arith [b9, fFor, Fm.d, sqd, L])
def oF : Option Fm → D
  | some f => f.d false
  | none => .non
theorem told_ok (k : Nat) (b b' : Bool) (f g : Fm) (μ : Mu) (hk : f.dp + 4 ≤ k ∧ g.dp + 4 ≤ k) (hf : f.few = true) (hg : g.few = true) : run k 29 [f.d b, g.d b'] μ = .ok (.val (oF (if agr f g then some (joi f g) else none))) μ := by
  obtain ⟨k, rfl⟩ : ∃ j, k = j + 1 := ⟨k - 1, by omega⟩
  have e : run (k+1) 29 = runOf 3 (b29 (run k)) := rfl
  rw [e]
  have h := jnd_ok k b b' f g μ (by omega) hf hg
  cases ha : agr f g with
  | true =>
    rw [ha] at h
    simp only [if_true] at h
    simp_arith [b29, fTry, h, oF]
  | false =>
    rw [ha] at h
    simp only [Bool.false_eq_true, if_false] at h
    simp_arith [b29, fTry, h, oF, SRes.nx]
theorem allt_ok (k : Nat) (c b : Bool) (ps : List Fm) (μ : Mu) (hk : Fm.dps ps + 5 ≤ k) (hf : Fm.fews ps = true) : run k 30 [sqd c (Fm.ds b ps)] μ = .ok (.val (oF (foldJ .op ps))) μ := by
  obtain ⟨k, rfl⟩ : ∃ j, k = j + 1 := ⟨k - 1, by omega⟩
  have e : run (k+1) 30 = runOf 2 (b30 (run k)) := rfl
  rw [e]
  have h := jall_ok k c b ps μ (by omega) hf
  cases hj : foldJ .op ps with
  | none =>
    rw [hj] at h
    simp_arith [b30, fTry, h, oF, SRes.nx]
  | some f =>
    rw [hj] at h
    simp_arith [b30, fTry, h, oF]
end Kx

set_option linter.all false
set_option maxRecDepth 100000
set_option maxHeartbeats 4000000
namespace Kx
open PySem Q
local macro_rules | `(tactic| simp_arith [$as,*] $[$l]?) => `(tactic| simp [runOf, envOf, fSeq, fIfS, fTB, fB, gEq, gNe, gGt, gLt, gLe, gGe, gIB, fVar, fC, gIx, sq, Res.bind, Res.to, L2.atI, L2.ixN, fSet, fMv, fMo, fSetIx, fRet, gMod, gDiv, gI, gAdd, gMul, fCall, fConsr, fNilr, gInt, getL, putL, SqD.items, fOr, fAnd, fOrV, fAndV, fNotV, fNot, fTT, tru, fFn, fCons, fNil, fNext, gLen, rd, fYes, wipeE, Tg.bind, Tg.binds, Res.nx, fZp, srcD, zipD, fSl, gSl, fSomeO, fNoO, fTup, fLst, fLc, List.replicate, D.scal2, D.eq, D.eqs, D.plain, D.plains, D.dep, D.deps, LIM, n1_ne, n1_beq, n1_bne, n1_pos, cut1, srcD_sq, fIf, gTuple, gList, fRaise, gIsN, gNotN, RV.isN, fIsi, isi, subTy, tyGo, tyName, fAny, $as,*] $[$l]?)
mutual
def odd : Fm → Fm → Option (List Nat)
  | .op, _ => none
  | .nd _ _, .op => none
  | .nd s ps, .nd t qs => if unl s ps.length t qs.length then some [] else oddA 0 ps qs
def oddA : Nat → List Fm → List Fm → Option (List Nat)
  | n, p :: ps, q :: qs => match odd p q with
    | some l => some (n :: l)
    | none => oddA (n + 1) ps qs
  | _, _, _ => none
end
mutual
theorem odd_len : ∀ (f g : Fm) (l : List Nat), odd f g = some l → l.length ≤ f.dp
  | .op, _, l, h => by simp [odd] at h
  | .nd _ _, .op, l, h => by simp [odd] at h
  | .nd s ps, .nd t qs, l, h => by
    simp only [odd] at h
    split at h
    · cases h; simp
    · have := oddA_len 0 ps qs l h
      simp only [Fm.dp]; omega
theorem oddA_len : ∀ (n : Nat) (ps qs : List Fm) (l : List Nat), oddA n ps qs = some l → l.length ≤ Fm.dps ps + 1
  | n, [], _, l, h => by simp [oddA] at h
  | n, _ :: _, [], l, h => by simp [oddA] at h
  | n, p :: ps, q :: qs, l, h => by
    simp only [oddA] at h
    cases e : odd p q with
    | some m =>
      rw [e] at h
      cases h
      have := odd_len p q m e
      simp only [Fm.dps, List.length_cons]; omega
    | none =>
      rw [e] at h
      have := oddA_len (n + 1) ps qs l h
      simp only [Fm.dps]; omega
end
def pl (l : List Nat) : D := .tup (l.map fun (n : Nat) => .int (n : Int))
def oP : Option (List Nat) → D
  | some l => pl l
  | none => .non
theorem odd_loop (b b' : Bool) (r : RunF) (x y : EV) (μ : Mu) : ∀ (ps qs : List Fm) (n : Nat) (e2 e3 e4 e5 : EV), (∀ p ∈ ps, ∀ q ∈ qs, r [p.d b, q.d b'] μ = .ok (.val (oP (odd p q))) μ) → Fm.dps ps ≤ 1000 →
    match oddA n ps qs with
    | some l => loop (.tp [(.nm 2), (.tp [(.nm 4), (.nm 5)])]) (fSeq (fSet 3 (fMv (fFn 2 r (fCons (fVar 4) (fCons (fVar 5) fNil))))) (fIfS (fTB (fB gNotN (fVar 3) (fC .non))) (fRet (fMv (fB gAdd (fTup (fCons (fVar 2) fNil)) (fVar 3)))) fNext)) (enumD (n : Int) (zipD (Fm.ds b ps) (Fm.ds b' qs))) [x, y, e2, e3, e4, e5] μ = .ret (.val (pl l)) μ
    | none => ∃ a2 a3 a4 a5, loop (.tp [(.nm 2), (.tp [(.nm 4), (.nm 5)])]) (fSeq (fSet 3 (fMv (fFn 2 r (fCons (fVar 4) (fCons (fVar 5) fNil))))) (fIfS (fTB (fB gNotN (fVar 3) (fC .non))) (fRet (fMv (fB gAdd (fTup (fCons (fVar 2) fNil)) (fVar 3)))) fNext)) (enumD (n : Int) (zipD (Fm.ds b ps) (Fm.ds b' qs))) [x, y, e2, e3, e4, e5] μ = .nxt [x, y, a2, a3, a4, a5] μ
  | [], qs, n, e2, e3, e4, e5, _, _ => by
    simp only [oddA]
    exact ⟨e2, e3, e4, e5, by simp [Fm.ds, zipD, enumD, loop]⟩
  | p :: ps, [], n, e2, e3, e4, e5, _, _ => by
    simp only [oddA]
    exact ⟨e2, e3, e4, e5, by simp [Fm.ds, zipD, enumD, loop]⟩
  | p :: ps, q :: qs, n, e2, e3, e4, e5, h, hd => by
    have h1 := h p List.mem_cons_self q List.mem_cons_self
    simp only [Fm.dps] at hd
    simp only [oddA]
    cases e : odd p q with
    | some m =>
      rw [e] at h1
      have lm := odd_len p q m e
      have l2 : 1 + m.length ≤ 16777216 := by omega
      simp [oP, pl] at h1
      simp_arith [Fm.ds, enumD, loop, h1, l2, pl]
    | none =>
      rw [e] at h1
      simp only [oP] at h1
      have ih := odd_loop b b' r x y μ ps qs (n + 1) (.val (.int n)) (.val .non) (.val (p.d b)) (.val (q.d b')) (fun p hp q hq => h p (List.mem_cons_of_mem _ hp) q (List.mem_cons_of_mem _ hq)) (by omega)
      have en : ((n + 1 : Nat) : Int) = (n : Int) + 1 := by omega
      rw [en] at ih
      cases ho : oddA (n + 1) ps qs with
      | some l =>
        rw [ho] at ih
        simp_arith [] at ih
        simp_arith [Fm.ds, enumD, loop, h1]
        exact ih
      | none =>
        rw [ho] at ih
        obtain ⟨a2, a3, a4, a5, ih⟩ := ih
        exact ⟨a2, a3, a4, a5, by simp_arith [Fm.ds, enumD, loop, h1]; exact ih⟩
theorem odd_ok : ∀ (k : Nat) (b b' : Bool) (f g : Fm) (μ : Mu), f.dp + 2 ≤ k → f.dp ≤ 1000 → run k 6 [f.d b, g.d b'] μ = .ok (.val (oP (odd f g))) μ
  | 0, _, _, _, _, _, h, _ => by omega
  | k + 1, b, b', f, g, μ, hk, hf => by
    have e : run (k+1) 6 = runOf 6 (b6 (run k)) := rfl
    rw [e]
    cases f with
    | op => cases b <;> simp_arith [b6, Fm.d, sqd, odd, oP]
    | nd s ps =>
      cases g with
      | op => cases b <;> cases b' <;> simp_arith [b6, Fm.d, sqd, odd, ds_len, oP]
      | nd t qs =>
        obtain ⟨k, rfl⟩ : ∃ j, k = j + 1 := ⟨k - 1, by simp [Fm.dp] at hk; omega⟩
        have u := unl_ok k b b' s t ps qs μ
        cases hu : unl s ps.length t qs.length with
        | true =>
          rw [hu] at u
          cases b <;> cases b' <;> (simp [Fm.d, sqd] at u; simp_arith [b6, Fm.d, sqd, odd, ds_len, u, hu, oP, pl])
        | false =>
          rw [hu] at u
          simp only [Fm.dp] at hk hf
          have L := odd_loop b b' (run (k+1) 6) (.val ((Fm.nd s ps).d b)) (.val ((Fm.nd t qs).d b')) μ ps qs 0 .un .un .un .un (fun p hp q _ => odd_ok (k+1) b b' p q μ (by have := dps_mem hp; omega) (by have := dps_mem hp; omega)) (by omega)
          cases ho : oddA 0 ps qs with
          | some l =>
            rw [ho] at L
            cases b <;> cases b' <;> (simp_arith [Fm.d, sqd] at u L; simp_arith [b6, fFor, fEnz, Fm.d, sqd, odd, ds_len, u, hu, L, oP, ho])
          | none =>
            rw [ho] at L
            obtain ⟨a2, a3, a4, a5, L⟩ := L
            cases b <;> cases b' <;> (simp_arith [Fm.d, sqd] at u L; simp_arith [b6, fFor, fEnz, Fm.d, sqd, odd, ds_len, u, hu, L, oP, ho])
end Kx

set_option linter.all false
set_option maxRecDepth 100000
set_option maxHeartbeats 4000000
namespace Kx
open PySem Q
local macro_rules | `(tactic| simp_arith [$as,*] $[$l]?) => `(tactic| simp [runOf, envOf, fSeq, fIfS, fTB, fB, gEq, gNe, gGt, gLt, gLe, gGe, gIB, fVar, fC, gIx, sq, Res.bind, Res.to, L2.atI, L2.ixN, fSet, fMv, fMo, fSetIx, fRet, gMod, gDiv, gI, gAdd, gMul, fCall, fConsr, fNilr, gInt, getL, putL, SqD.items, fOr, fAnd, fOrV, fAndV, fNotV, fNot, fTT, tru, fFn, fCons, fNil, fNext, gLen, rd, fYes, wipeE, Tg.bind, Tg.binds, Res.nx, fZp, srcD, zipD, fSl, gSl, fSomeO, fNoO, fTup, fLst, fLc, List.replicate, D.scal2, D.eq, D.eqs, D.plain, D.plains, D.dep, D.deps, LIM, n1_ne, n1_beq, n1_bne, n1_pos, cut1, srcD_sq, fIf, gTuple, gList, fRaise, gIsN, gNotN, RV.isN, fIsi, isi, subTy, tyGo, tyName, fAny, $as,*] $[$l]?)
mutual
/-- the number of places -/
def Fm.sz : Fm → Nat
  | .op => 1
  | .nd _ ps => Fm.szs ps + 1
def Fm.szs : List Fm → Nat
  | [] => 0
  | p :: ps => Fm.sz p + Fm.szs ps
end
mutual
def spots : Fm → List (List Nat)
  | .op => [[]]
  | .nd _ ps => [] :: spA 0 ps
def spA : Nat → List Fm → List (List Nat)
  | _, [] => []
  | n, p :: ps => (spots p).map (n :: ·) ++ spA (n + 1) ps
end
mutual
theorem spots_len : ∀ f : Fm, (spots f).length = f.sz
  | .op => rfl
  | .nd _ ps => by simp only [spots, Fm.sz, List.length_cons, spA_len 0 ps]
theorem spA_len : ∀ (n : Nat) (ps : List Fm), (spA n ps).length = Fm.szs ps
  | _, [] => rfl
  | n, p :: ps => by simp only [spA, Fm.szs, List.length_append, List.length_map, spots_len p, spA_len (n + 1) ps]
end
mutual
theorem spots_deep : ∀ (f : Fm) (l : List Nat), l ∈ spots f → l.length ≤ f.dp
  | .op, l, h => by simp [spots] at h; simp [h]
  | .nd _ ps, l, h => by
    simp only [spots] at h
    rcases List.mem_cons.mp h with e | h
    · simp [e]
    · have := spA_deep 0 ps l h
      simp only [Fm.dp]; omega
theorem spA_deep : ∀ (n : Nat) (ps : List Fm) (l : List Nat), l ∈ spA n ps → l.length ≤ Fm.dps ps + 1
  | _, [], l, h => by simp [spA] at h
  | n, p :: ps, l, h => by
    simp only [spA] at h
    rcases List.mem_append.mp h with h | h
    · obtain ⟨m, hm, e⟩ := List.mem_map.mp h
      have := spots_deep p m hm
      subst e
      simp only [Fm.dps, List.length_cons]; omega
    · have := spA_deep (n + 1) ps l h
      simp only [Fm.dps]; omega
end
theorem pre_loop (n : Nat) (x y z : EV) (μ : Mu) : ∀ (ls : List (List Nat)) (acc : List D), (∀ l ∈ ls, l.length ≤ 1000) →
    lcLoop (.nm 4) fYes (fB gAdd (fTup (fCons (fVar 2) fNil)) (fVar 4)) [x, y, .val (.int (n : Int)), z, .un] (ls.map pl) μ acc = .ok (acc ++ (ls.map (n :: ·)).map pl) μ
  | [], acc, _ => by simp [lcLoop]
  | l :: ls, acc, h => by
    have h1 : 1 + l.length ≤ 16777216 := by have := h l List.mem_cons_self; omega
    have ih := pre_loop n x y z μ ls (acc ++ [pl (n :: l)]) fun l hl => h l (List.mem_cons_of_mem _ hl)
    simp [pl] at ih
    simp_arith [lcLoop, pl, h1] at ih ⊢
    exact ih
theorem spot_loop (r : RunF) (x : EV) (μ : Mu) : ∀ (ps : List Fm) (n : Nat) (ds : List (List Nat)) (e2 e3 e4 : EV), (∀ p ∈ ps, r [p.d false] μ = .ok (.val (.lst ((spots p).map pl))) μ) → ds.length + Fm.szs ps ≤ 1000000 → Fm.dps ps ≤ 999 →
    ∃ a2 a3, loop (.tp [(.nm 2), (.nm 3)]) (fSet 1 (fMv (fB gCat (fVar 1) (fLc (fAny (fFn 1 r (fCons (fVar 3) fNil))) (.nm 4) fYes (fB gAdd (fTup (fCons (fVar 2) fNil)) (fVar 4)) [4])))) (enumD (n : Int) (Fm.ds false ps)) [x, .val (.lst (ds.map pl)), e2, e3, .un] μ = .nxt [x, .val (.lst ((ds ++ spA n ps).map pl)), a2, a3, .un] μ
  | [], n, ds, e2, e3, e4, _, _, _ => ⟨e2, e3, by simp [Fm.ds, enumD, loop, spA]⟩
  | p :: ps, n, ds, e2, e3, e4, h, hs, hd => by
    have h1 := h p List.mem_cons_self
    simp only [Fm.szs] at hs
    simp only [Fm.dps] at hd
    have L := pre_loop n x (.val (.lst (ds.map pl))) (.val (p.d false)) μ (spots p) [] fun l hl => by have := spots_deep p l hl; omega
    have sl := spots_len p
    have z1 : (spots p).length ≤ 16777216 := by omega
    have z2 : ds.length + (spots p).length ≤ 16777216 := by omega
    have ih := spot_loop r x μ ps (n + 1) (ds ++ (spots p).map (n :: ·)) (.val (.int n)) (.val (p.d false)) .un (fun p hp => h p (List.mem_cons_of_mem _ hp)) (by simp only [List.length_append, List.length_map]; omega) (by omega)
    obtain ⟨a2, a3, ih⟩ := ih
    have en : ((n + 1 : Nat) : Int) = (n : Int) + 1 := by omega
    rw [en] at ih
    refine ⟨a2, a3, ?_⟩
    simp_arith [] at ih L
    simp_arith [Fm.ds, enumD, loop, h1, L, z1, z2, gCat, sqM, spA]
    exact ih
theorem spots_ok : ∀ (k : Nat) (f : Fm) (μ : Mu), f.dp + 2 ≤ k → f.dp ≤ 999 → f.sz ≤ 1000000 → run k 18 [f.d false] μ = .ok (.val (.lst ((spots f).map pl))) μ
  | 0, _, _, h, _, _ => by omega
  | k + 1, f, μ, hk, hd, hs => by
    have e : run (k+1) 18 = runOf 5 (b18 (run k)) := rfl
    rw [e]
    cases f with
    | op => simp_arith [b18, fFor, fEn, Fm.d, sqd, spots, pl, enumD, loop, cut, HT.sIx]
    | nd s ps =>
      simp only [Fm.dp] at hk hd
      simp only [Fm.sz] at hs
      obtain ⟨a2, a3, L⟩ := spot_loop (run k 18) (.val ((Fm.nd s ps).d false)) μ ps 0 [[]] .un .un .un (fun p hp => spots_ok k p μ (by have := dps_mem hp; omega) (by have := dps_mem hp; omega) (by
        have : ∀ {ps : List Fm}, p ∈ ps → p.sz ≤ Fm.szs ps := fun {ps} hp => by
          induction ps with
          | nil => cases hp
          | cons q ps ih =>
            simp only [Fm.szs]
            rcases List.mem_cons.mp hp with e | h
            · subst e; omega
            · have := ih h; omega
        have := this hp; omega)) (by simp only [List.length_singleton]; omega) (by omega)
      simp_arith [Fm.d, sqd, pl] at L
      simp_arith [b18, fFor, fEn, Fm.d, sqd, spots, pl, L]
end Kx

set_option linter.all false
set_option maxRecDepth 100000
set_option maxHeartbeats 4000000
namespace Kx
open PySem Q
local macro_rules | `(tactic| simp_arith [$as,*] $[$l]?) => `(tactic| simp [runOf, envOf, fSeq, fIfS, fTB, fB, gEq, gNe, gGt, gLt, gLe, gGe, gIB, fVar, fC, gIx, sq, Res.bind, Res.to, L2.atI, L2.ixN, fSet, fMv, fMo, fSetIx, fRet, gMod, gDiv, gI, gAdd, gMul, fCall, fConsr, fNilr, gInt, getL, putL, SqD.items, fOr, fAnd, fOrV, fAndV, fNotV, fNot, fTT, tru, fFn, fCons, fNil, fNext, gLen, rd, fYes, wipeE, Tg.bind, Tg.binds, Res.nx, fZp, srcD, zipD, fSl, gSl, fSomeO, fNoO, fTup, fLst, fLc, List.replicate, D.scal2, D.eq, D.eqs, D.plain, D.plains, D.dep, D.deps, LIM, n1_ne, n1_beq, n1_bne, n1_pos, cut1, srcD_sq, fIf, gTuple, gList, fRaise, gIsN, gNotN, RV.isN, fIsi, isi, subTy, tyGo, tyName, fAny, $as,*] $[$l]?)
/-- what stands at a place -/
def pt : List Nat → Fm → Option Fm
  | [], f => some f
  | _ :: _, .op => none
  | i :: l, .nd _ ps => match ps[i]? with
    | some p => pt l p
    | none => none
theorem atI_succ (d : D) (ds : List D) (i : Nat) : L2.atI (d :: ds) ((i : Int) + 1) = ds[i]? := by
  have h0 : (0 : Int) ≤ (i : Int) + 1 := by omega
  have t : ((i : Int) + 1).toNat = i + 1 := by omega
  unfold L2.atI L2.ixN
  rw [if_pos h0]
  by_cases h : (i : Int) + 1 < ((d :: ds).length : Int)
  · rw [if_pos h, Option.bind_some, t, List.getElem?_cons_succ]
  · rw [if_neg h]
    have : ds.length ≤ i := by simp only [List.length_cons] at h; omega
    rw [List.getElem?_eq_none this]
    rfl
theorem ds_get (b : Bool) : ∀ (ps : List Fm) (i : Nat), (Fm.ds b ps)[i]? = (ps[i]?).map (fun p => p.d b)
  | [], i => by simp [Fm.ds]
  | p :: ps, 0 => by simp [Fm.ds]
  | p :: ps, i + 1 => by simp [Fm.ds, ds_get b ps i]
theorem at_loop (x y : EV) (μ : Mu) : ∀ (l : List Nat) (f g : Fm) (e : EV), pt l f = some g →
    ∃ a, loop (.nm 3) (fSet 2 (fMv (fB gIx (fVar 2) (fB gAdd (fVar 3) (fC (.int 1)))))) (l.map fun (n : Nat) => D.int (n : Int)) [x, y, .val (f.d false), e] μ = .nxt [x, y, .val (g.d false), a] μ
  | [], f, g, e, h => by
    simp only [pt, Option.some.injEq] at h
    subst h
    exact ⟨e, by simp [loop]⟩
  | i :: l, .op, g, e, h => by simp [pt] at h
  | i :: l, .nd s ps, g, e, h => by
    simp only [pt] at h
    cases hp : ps[i]? with
    | none => rw [hp] at h; simp at h
    | some p =>
      rw [hp] at h
      obtain ⟨a, ih⟩ := at_loop x y μ l p g (.val (.int (i : Int))) h
      have q : L2.atI (D.str s :: Fm.ds false ps) ((i : Int) + 1) = some (p.d false) := by rw [atI_succ, ds_get, hp]; rfl
      refine ⟨a, ?_⟩
      have q2 : fSet 2 (fMv (fB gIx (fVar 2) (fB gAdd (fVar 3) (fC (.int 1))))) [x, y, .val ((Fm.nd s ps).d false), .val (.int (i : Int))] μ = .nxt [x, y, .val (p.d false), .val (.int (i : Int))] μ := by
        simp [fSet, fMv, fB, fVar, fC, gAdd, gIx, Res.bind, Res.to, Fm.d, sqd, sq, SqD.items, q]
      simp [loop, Tg.bind, q2, ih]
theorem at_ok (k : Nat) (l : List Nat) (f g : Fm) (μ : Mu) (h : pt l f = some g) : run (k+1) 19 [f.d false, pl l] μ = .ok (.val (g.d false)) μ := by
  have e : run (k+1) 19 = runOf 4 (b19 (run k)) := rfl
  rw [e]
  obtain ⟨a, L⟩ := at_loop (.val (f.d false)) (.val (pl l)) μ l f g .un h
  simp [b19, runOf, envOf, fSeq, fFor, fAny, fVar, fMv, fSet, fRet, Res.bind, Res.to, List.replicate]
  simp [fSet, fMv, fB, fVar, fC, Res.bind, Res.to, pl] at L ⊢
  simp [L]
/-! ### tables -/
mutual
def Fm.ok : Fm → Bool
  | .op => true
  | .nd s ps => PyData.strOk s && Fm.oks ps
def Fm.oks : List Fm → Bool
  | [] => true
  | p :: ps => Fm.ok p && Fm.oks ps
end
mutual
theorem plain_d (b : Bool) : ∀ f : Fm, f.ok = true → D.plain (f.d b) = true
  | .op, _ => by cases b <;> rfl
  | .nd s ps, h => by
    simp only [Fm.ok, Bool.and_eq_true] at h
    have := plain_ds b ps h.2
    cases b <;> simp [Fm.d, sqd, D.plain, D.plains, h.1, this]
theorem plain_ds (b : Bool) : ∀ ps : List Fm, Fm.oks ps = true → D.plains (Fm.ds b ps) = true
  | [], _ => rfl
  | p :: ps, h => by
    simp only [Fm.oks, Bool.and_eq_true] at h
    simp [Fm.ds, D.plains, plain_d b p h.1, plain_ds b ps h.2]
end
theorem pl_plain : ∀ l : List Nat, D.plains (l.map fun (n : Nat) => D.int (n : Int)) = true
  | [] => rfl
  | n :: l => by simp [D.plains, D.plain, pl_plain l]
theorem pl_dep : ∀ l : List Nat, D.deps (l.map fun (n : Nat) => D.int (n : Int)) = 0
  | [] => rfl
  | n :: l => by simp [D.deps, D.dep, pl_dep l]
theorem pl_eqs : ∀ l m : List Nat, D.eqs (l.map fun (n : Nat) => D.int (n : Int)) (m.map fun (n : Nat) => D.int (n : Int)) = decide (l = m)
  | [], [] => rfl
  | [], _ :: _ => rfl
  | _ :: _, [] => rfl
  | n :: l, k :: m => by
    have e : ((n : Int) == (k : Int)) = decide (n = k) := by
      by_cases h : n = k
      · simp [h]
      · have : ¬ (n : Int) = (k : Int) := by omega
        simp [h, this]
    simp [D.eqs, D.eq, e, pl_eqs l m]
abbrev Sg := Str × Nat
def sgD (g : Sg) : D := .tup [.str g.1, .int (g.2 : Int)]
def enD (x : List Nat × Sg) : D := .tup [pl x.1, sgD x.2]
def look : List (List Nat × Sg) → List Nat → Option Sg
  | [], _ => none
  | x :: T, l => if x.1 = l then some x.2 else look T l
def oS : Option Sg → D
  | some g => sgD g
  | none => .non
theorem look_loop (x : EV) (l : List Nat) (μ : Mu) : ∀ (T : List (List Nat × Sg)) (e2 e3 : EV),
    match look T l with
    | some g => loop (.tp [(.nm 2), (.nm 3)]) (fIfS (fTB (fB gEq (fVar 2) (fVar 1))) (fRet (fMv (fVar 3))) fNext) (T.map enD) [x, .val (pl l), e2, e3] μ = .ret (.val (sgD g)) μ
    | none => ∃ a2 a3, loop (.tp [(.nm 2), (.nm 3)]) (fIfS (fTB (fB gEq (fVar 2) (fVar 1))) (fRet (fMv (fVar 3))) fNext) (T.map enD) [x, .val (pl l), e2, e3] μ = .nxt [x, .val (pl l), a2, a3] μ
  | [], e2, e3 => by
    simp only [look]
    exact ⟨e2, e3, by simp [loop]⟩
  | (m, g) :: T, e2, e3 => by
    have st : fIfS (fTB (fB gEq (fVar 2) (fVar 1))) (fRet (fMv (fVar 3))) fNext [x, .val (pl l), .val (pl m), .val (sgD g)] μ = if m = l then .ret (.val (sgD g)) μ else .nxt [x, .val (pl l), .val (pl m), .val (sgD g)] μ := by
      by_cases h : m = l
      · simp [fIfS, fTB, fB, gEq, rd, fVar, fRet, fMv, fNext, Res.bind, Res.to, pl, D.scal2, D.plain, pl_plain, D.dep, pl_dep, D.eq, pl_eqs, h]
      · simp [fIfS, fTB, fB, gEq, rd, fVar, fRet, fMv, fNext, Res.bind, Res.to, pl, D.scal2, D.plain, pl_plain, D.dep, pl_dep, D.eq, pl_eqs, h]
    simp only [look]
    by_cases h : m = l
    · rw [if_pos h] at st ⊢
      simp [loop, Tg.bind, Tg.binds, enD, st]
    · rw [if_neg h] at st ⊢
      have ih := look_loop x l μ T (.val (pl m)) (.val (sgD g))
      cases hl : look T l with
      | some s =>
        rw [hl] at ih
        simp [loop, Tg.bind, Tg.binds, enD, st]
        exact ih
      | none =>
        rw [hl] at ih
        obtain ⟨a2, a3, ih⟩ := ih
        refine ⟨a2, a3, ?_⟩
        simp [loop, Tg.bind, Tg.binds, enD, st]
        exact ih
theorem look_ok (k : Nat) (T : List (List Nat × Sg)) (l : List Nat) (μ : Mu) : run (k+1) 25 [.lst (T.map enD), pl l] μ = .ok (.val (oS (look T l))) μ := by
  have e : run (k+1) 25 = runOf 4 (b25 (run k)) := rfl
  rw [e]
  have L := look_loop (.val (.lst (T.map enD))) l μ T .un .un
  cases h : look T l with
  | some g =>
    rw [h] at L
    simp [b25, runOf, envOf, fSeq, fFor, fAny, fVar, Res.to, List.replicate, L, oS]
  | none =>
    rw [h] at L
    obtain ⟨a2, a3, L⟩ := L
    simp [b25, runOf, envOf, fSeq, fFor, fAny, fVar, Res.to, List.replicate, L, oS, fRet, fMv, fC, Res.bind]
end Kx

set_option linter.all false
set_option maxRecDepth 100000
set_option maxHeartbeats 4000000
namespace Kx
open PySem Q
local macro_rules | `(tactic| simp_arith [$as,*] $[$l]?) => `(tactic| simp [runOf, envOf, fSeq, fIfS, fTB, fB, gEq, gNe, gGt, gLt, gLe, gGe, gIB, fVar, fC, gIx, sq, Res.bind, Res.to, L2.atI, L2.ixN, fSet, fMv, fMo, fSetIx, fRet, gMod, gDiv, gI, gAdd, gMul, fCall, fConsr, fNilr, gInt, getL, putL, SqD.items, fOr, fAnd, fOrV, fAndV, fNotV, fNot, fTT, tru, fFn, fCons, fNil, fNext, gLen, rd, fYes, wipeE, Tg.bind, Tg.binds, Res.nx, fZp, srcD, zipD, fSl, gSl, fSomeO, fNoO, fTup, fLst, fLc, List.replicate, D.scal2, D.eq, D.eqs, D.plain, D.plains, D.dep, D.deps, n1_ne, n1_beq, n1_bne, n1_pos, cut1, srcD_sq, fIf, gTuple, gList, fRaise, gIsN, gNotN, RV.isN, fIsi, isi, subTy, tyGo, tyName, fAny, $as,*] $[$l]?)
/-- the sign of a form -/
def sgo : Fm → Option Sg
  | .op => none
  | .nd s ps => some (s, ps.length)
theorem bld_loop (x y z : EV) (T : D) (r : RunF) (l0 : List Nat) (μ : Mu) : ∀ (ps : List Fm) (i : Nat) (acc : List D), l0.length ≤ 1000 → (∀ (j : Nat) (p : Fm), ps[j]? = some p → r [T, pl (l0 ++ [i + j])] μ = .ok (.val (p.d false)) μ) →
    lcLoop (.nm 3) fYes (fFn 2 r (fCons (fVar 0) (fCons (fB gAdd (fVar 1) (fTup (fCons (fVar 3) fNil))) fNil))) [.val T, .val (pl l0), z, .un] (rangeD (i : Int) ps.length) μ acc = .ok (acc ++ Fm.ds false ps) μ
  | [], i, acc, _, _ => by simp [rangeD, lcLoop, Fm.ds]
  | p :: ps, i, acc, hl, h => by
    have h1 := h 0 p rfl
    have ih := bld_loop x y z T r l0 μ ps (i + 1) (acc ++ [p.d false]) hl fun j q hq => by
      have := h (j + 1) q hq
      have e : i + 1 + j = i + (j + 1) := by omega
      rw [e]; exact this
    have en : ((i + 1 : Nat) : Int) = (i : Int) + 1 := by omega
    rw [en] at ih
    have st : fFn 2 r (fCons (fVar 0) (fCons (fB gAdd (fVar 1) (fTup (fCons (fVar 3) fNil))) fNil)) [.val T, .val (pl l0), z, .val (.int (i : Int))] μ = .ok (.val (p.d false)) μ := by
      have z1 : l0.length + 1 ≤ 16777216 := by omega
      simp [pl] at h1
      simp [fFn, fCons, fVar, fB, gAdd, fTup, fNil, Res.bind, pl, LIM, z1, h1]
    simp [rangeD, lcLoop, Tg.bind, fYes, Res.nx, Res.bind, st, ih, Fm.ds]
theorem pt_snoc (h : Fm) (s : Str) (ps : List Fm) (j : Nat) (p : Fm) (m : List Nat) (hj : ps[j]? = some p) : pt (j :: m) (.nd s ps) = pt m p := by simp [pt, hj]
theorem dps_get {ps : List Fm} {j : Nat} {p : Fm} (h : ps[j]? = some p) : p.dp ≤ Fm.dps ps := dps_mem (List.mem_of_getElem? h)
theorem fews_get {ps : List Fm} {j : Nat} {p : Fm} (h : ps[j]? = some p) (hf : Fm.fews ps = true) : p.few = true := fews_mem hf (List.mem_of_getElem? h)
theorem fB_eq {fa fb : FE} {env : En} {μ μ1 μ2 : Mu} {x y : RV} (g : G2) (h1 : fa env μ = .ok x μ1) (h2 : fb env μ1 = .ok y μ2) : fB g fa fb env μ = g env x y μ2 := by
  unfold fB
  rw [h1]
  show Res.bind (fb env μ1) _ = _
  rw [h2]
  rfl
theorem fLc_eq {fi : FI} {t : Tg} {ft : FT} {fe : FE} {vs : List Nat} {env : En} {μ μ1 μ2 : Mu} {ds l : List D} (h1 : fi env μ = .ok ds μ1) (h2 : ds.length ≤ LIM) (h3 : lcLoop t ft fe (wipeE env vs) ds μ1 [] = .ok l μ2) : fLc fi t ft fe vs env μ = .ok (.val (.lst l)) μ2 := by
  unfold fLc
  rw [h1]
  simp only [Res.bind, if_pos h2, h3]
theorem fRng1_eq {fa : FE} {env : En} {μ μ1 : Mu} {n : Nat} (h : fa env μ = .ok (.val (.int (n : Int))) μ1) (hr : rngOk (n : Int) = true) : fRng1 fa env μ = .ok (rangeD 0 n) μ1 := by
  unfold fRng1
  rw [h]
  simp only [Res.bind, hr, if_true, Int.toNat_natCast]
theorem fTupCall {fa : FE} {env : En} {μ μ1 : Mu} {l : List D} (h : fa env μ = .ok (.val (.lst l)) μ1) : fCall gTuple (fConsr fa fNilr) env μ = .ok (.val (.tup l)) μ1 := by
  simp [fCall, fConsr, fNilr, h, gTuple, sq, SqD.items, Res.bind]
theorem gAdd_tup {a b : List D} {env : En} {μ : Mu} (h : a.length + b.length ≤ LIM) : gAdd env (.val (.tup a)) (.val (.tup b)) μ = .ok (.val (.tup (a ++ b))) μ := by
  simp only [gAdd, if_pos h]
theorem bld_ok : ∀ (k : Nat) (h : Fm) (l0 : List Nat) (T : List (List Nat × Sg)) (μ : Mu), h.dp + 2 ≤ k → h.few = true → l0.length + h.dp ≤ 1000 → (∀ m g, pt m h = some g → look T (l0 ++ m) = sgo g) → run k 26 [.lst (T.map enD), pl l0] μ = .ok (.val (h.d false)) μ
  | 0, _, _, _, _, hk, _, _, _ => by omega
  | k + 1, h, l0, T, μ, hk, hf, hl, hT => by
    have e : run (k+1) 26 = runOf 4 (b26 (run k)) := rfl
    rw [e]
    obtain ⟨k, rfl⟩ : ∃ j, k = j + 1 := ⟨k - 1, by omega⟩
    have lk := look_ok k T l0 μ
    have l1 := hT [] h rfl
    rw [List.append_nil] at l1
    rw [l1] at lk
    cases h with
    | op =>
      simp only [sgo, oS] at lk
      simp_arith [b26, lk, Fm.d, sqd, LIM]
    | nd s ps =>
      simp only [sgo, oS, sgD] at lk
      simp only [Fm.dp] at hk hl
      have hf2 : ps.length ≤ 1000 ∧ Fm.fews ps = true := by simpa [Fm.few] using hf
      have L := bld_loop .un .un (.val (.tup [.str s, .int (ps.length : Int)])) (.lst (T.map enD)) (run (k+1) 26) l0 μ ps 0 [] (by omega) fun j p hj => bld_ok (k+1) p (l0 ++ [0 + j]) T μ (by have := dps_get hj; omega) (fews_get hj hf2.2) (by have := dps_get hj; simp only [List.length_append, List.length_singleton]; omega) fun m g hm => by
        have := hT (j :: m) g (by rw [pt_snoc (.op) s ps j p m hj]; exact hm)
        rw [List.append_assoc, Nat.zero_add]
        exact this
      have rg : rngOk (ps.length : Int) = true := decide_eq_true (by omega)
      have rl : (rangeD 0 ps.length).length ≤ LIM := by rw [rangeD_len, LIM]; omega
      have tl : 1 + (Fm.ds false ps).length ≤ LIM := by rw [ds_len, LIM]; omega
      have E1 : fSet 2 (fMv (fFn 2 (run (k+1) 25) (fCons (fVar 0) (fCons (fVar 1) fNil)))) [.val (.lst (T.map enD)), .val (pl l0), .un, .un] μ = .nxt [.val (.lst (T.map enD)), .val (pl l0), .val (.tup [.str s, .int (ps.length : Int)]), .un] μ := by
        simp [fSet, fMv, fFn, fCons, fVar, fNil, Res.bind, Res.to, lk]
      have E2 : fIfS (fTB (fB gIsN (fVar 2) (fC .non))) (fRet (fMv (fTup fNil))) fNext [.val (.lst (T.map enD)), .val (pl l0), .val (.tup [.str s, .int (ps.length : Int)]), .un] μ = .nxt [.val (.lst (T.map enD)), .val (pl l0), .val (.tup [.str s, .int (ps.length : Int)]), .un] μ := by
        simp [fIfS, fTB, fB, gIsN, fVar, fC, Res.bind, Res.to, RV.isN, fNext]
      have E3 : fRng1 (fB gIx (fVar 2) (fC (.int 1))) [.val (.lst (T.map enD)), .val (pl l0), .val (.tup [.str s, .int (ps.length : Int)]), .un] μ = .ok (rangeD 0 ps.length) μ := by
        have q : fB gIx (fVar 2) (fC (.int 1)) [.val (.lst (T.map enD)), .val (pl l0), .val (.tup [.str s, .int (ps.length : Int)]), .un] μ = .ok (.val (.int (ps.length : Int))) μ := by
          simp [fB, fVar, fC, gIx, Res.bind, sq, SqD.items, L2.atI, L2.ixN]
        exact fRng1_eq q rg
      have E4 : fTup (fCons (fB gIx (fVar 2) (fC (.int 0))) fNil) [.val (.lst (T.map enD)), .val (pl l0), .val (.tup [.str s, .int (ps.length : Int)]), .un] μ = .ok (.val (.tup [.str s])) μ := by
        simp [fTup, fCons, fNil, fB, fVar, fC, gIx, Res.bind, sq, SqD.items, L2.atI, L2.ixN, LIM]
      have L : lcLoop (.nm 3) fYes (fFn 2 (run (k+1) 26) (fCons (fVar 0) (fCons (fB gAdd (fVar 1) (fTup (fCons (fVar 3) fNil))) fNil))) [.val (.lst (T.map enD)), .val (pl l0), .val (.tup [.str s, .int (ps.length : Int)]), .un] (rangeD 0 ps.length) μ [] = .ok (Fm.ds false ps) μ := L
      have E5 : fCall gTuple (fConsr (fLc (fRng1 (fB gIx (fVar 2) (fC (.int 1)))) (.nm 3) fYes (fFn 2 (run (k+1) 26) (fCons (fVar 0) (fCons (fB gAdd (fVar 1) (fTup (fCons (fVar 3) fNil))) fNil))) [3]) fNilr) [.val (.lst (T.map enD)), .val (pl l0), .val (.tup [.str s, .int (ps.length : Int)]), .un] μ = .ok (.val (.tup (Fm.ds false ps))) μ := by
        exact fTupCall (fLc_eq E3 rl L)
      have E6 : fRet (fMv (fB gAdd (fTup (fCons (fB gIx (fVar 2) (fC (.int 0))) fNil)) (fCall gTuple (fConsr (fLc (fRng1 (fB gIx (fVar 2) (fC (.int 1)))) (.nm 3) fYes (fFn 2 (run (k+1) 26) (fCons (fVar 0) (fCons (fB gAdd (fVar 1) (fTup (fCons (fVar 3) fNil))) fNil))) [3]) fNilr)))) [.val (.lst (T.map enD)), .val (pl l0), .val (.tup [.str s, .int (ps.length : Int)]), .un] μ = .ret (.val (.tup (.str s :: Fm.ds false ps))) μ := by
        have q := fB_eq gAdd E4 E5
        rw [gAdd_tup (a := [.str s]) tl] at q
        unfold fRet fMv
        rw [q]
        rfl
      show runOf 4 (b26 (run (k+1))) [.lst (T.map enD), pl l0] μ = .ok (.val (.tup (.str s :: Fm.ds false ps))) μ
      have E7 : b26 (run (k+1)) [.val (.lst (T.map enD)), .val (pl l0), .un, .un] μ = .ret (.val (.tup (.str s :: Fm.ds false ps))) μ := by
        unfold b26 fSeq
        rw [E1]
        show (match fIfS (fTB (fB gIsN (fVar 2) (fC .non))) (fRet (fMv (fTup fNil))) fNext [.val (.lst (T.map enD)), .val (pl l0), .val (.tup [.str s, .int (ps.length : Int)]), .un] μ with | .nxt env μ => _ | r => r) = _
        rw [E2]
        exact E6
      unfold runOf
      show (match b26 (run (k+1)) [.val (.lst (T.map enD)), .val (pl l0), .un, .un] μ with | .ret d μ => Res.ok d μ | .nxt _ μ => .ok (.val .non) μ | .exc e _ μ => .exc e μ | _ => .bad) = _
      rw [E7]
/-! ### a form's table -/
def en1 (f : Fm) (l : List Nat) : Option (List Nat × Sg) := match pt l f with
  | some (.nd s ps) => some (l, (s, ps.length))
  | _ => none
def mp (f : Fm) : List (List Nat × Sg) := (spots f).filterMap (en1 f)
theorem pt_ok : ∀ (l : List Nat) (f g : Fm), pt l f = some g → f.ok = true → g.ok = true
  | [], f, g, h, hf => by simp only [pt, Option.some.injEq] at h; rw [← h]; exact hf
  | i :: l, .op, g, h, _ => by simp [pt] at h
  | i :: l, .nd s ps, g, h, hf => by
    simp only [pt] at h
    cases hp : ps[i]? with
    | none => rw [hp] at h; simp at h
    | some p =>
      rw [hp] at h
      simp only [Fm.ok, Bool.and_eq_true] at hf
      have : ∀ {ps : List Fm}, Fm.oks ps = true → p ∈ ps → p.ok = true := fun {ps} ho hm => by
        induction ps with
        | nil => cases hm
        | cons q ps ih =>
          simp only [Fm.oks, Bool.and_eq_true] at ho
          rcases List.mem_cons.mp hm with e | hm
          · rw [e]; exact ho.1
          · exact ih ho.2 hm
      exact pt_ok l p g h (this hf.2 (List.mem_of_getElem? hp))
theorem map_loop (k : Nat) (f : Fm) (μ : Mu) (hf : f.ok = true) : ∀ (ls : List (List Nat)) (acc : List (List Nat × Sg)) (e2 e3 : EV), (∀ l ∈ ls, ∃ g, pt l f = some g) → acc.length + ls.length ≤ 1000000 →
    ∃ a2 a3, loop (.nm 2) (fSeq (fSet 3 (fMv (fFn 2 (run (k+1) 19) (fCons (fVar 0) (fCons (fVar 2) fNil))))) (fIfS (fTB (fB gNe (fVar 3) (fTup fNil))) (fApp 1 (fTup (fCons (fVar 2) (fCons (fTup (fCons (fB gIx (fVar 3) (fC (.int 0))) (fCons (fB gSub (fCall gLen (fConsr (fVar 3) fNilr)) (fC (.int 1))) fNil))) fNil)))) fNext)) (ls.map pl) [.val (f.d false), .own (acc.map enD), e2, e3] μ = .nxt [.val (f.d false), .own ((acc ++ ls.filterMap (en1 f)).map enD), a2, a3] μ
  | [], acc, e2, e3, _, _ => ⟨e2, e3, by simp [loop]⟩
  | l :: ls, acc, e2, e3, h, hn => by
    obtain ⟨g, hg⟩ := h l List.mem_cons_self
    have h1 := at_ok k l f g μ hg
    simp only [List.length_cons] at hn
    cases g with
    | op =>
      obtain ⟨a2, a3, ih⟩ := map_loop k f μ hf ls acc (.val (pl l)) (.val (.tup [])) (fun l hl => h l (List.mem_cons_of_mem _ hl)) (by omega)
      refine ⟨a2, a3, ?_⟩
      have en : en1 f l = none := by simp [en1, hg]
      simp only [Fm.d, sqd] at h1
      rw [List.filterMap_cons_none en]
      simp_arith [loop, h1, LIM]
      simpa using ih
    | nd s ps =>
      obtain ⟨a2, a3, ih⟩ := map_loop k f μ hf ls (acc ++ [(l, (s, ps.length))]) (.val (pl l)) (.val ((Fm.nd s ps).d false)) (fun l hl => h l (List.mem_cons_of_mem _ hl)) (by simp only [List.length_append, List.length_singleton]; omega)
      refine ⟨a2, a3, ?_⟩
      have en : en1 f l = some (l, (s, ps.length)) := by simp [en1, hg]
      have gk := plain_d false _ (pt_ok l f _ hg hf)
      have z : acc.length < 16777216 := by omega
      have dm : min (D.deps (.str s :: Fm.ds false ps) + 1) (0 + 1) ≤ 64 := by omega
      simp only [Fm.d, sqd] at h1 gk ih
      simp only [D.plain] at gk
      rw [List.filterMap_cons_some en]
      have ih2 := ih
      simp only [List.append_assoc, List.singleton_append] at ih2
      have st : fSeq (fSet 3 (fMv (fFn 2 (run (k+1) 19) (fCons (fVar 0) (fCons (fVar 2) fNil))))) (fIfS (fTB (fB gNe (fVar 3) (fTup fNil))) (fApp 1 (fTup (fCons (fVar 2) (fCons (fTup (fCons (fB gIx (fVar 3) (fC (.int 0))) (fCons (fB gSub (fCall gLen (fConsr (fVar 3) fNilr)) (fC (.int 1))) fNil))) fNil)))) fNext) [.val (f.d false), .own (acc.map enD), .val (pl l), e3] μ = .nxt [.val (f.d false), .own ((acc ++ [(l, (s, ps.length))]).map enD), .val (pl l), .val (.tup (.str s :: Fm.ds false ps))] μ := by
        have q : ((ps.length : Int) + 1 - 1) = (ps.length : Int) := by omega
        have gk2 : PyData.strOk s = true ∧ D.plains (Fm.ds false ps) = true := by
          simpa [D.plains, D.plain] using gk
        have dm2 : min (max 0 (D.deps (Fm.ds false ps)) + 1) 1 ≤ 64 := by omega
        simp [fSeq, fSet, fMv, fFn, fCons, fVar, fNil, Res.bind, Res.to, h1, fIfS, fTB, fB, gNe, rd, fTup, D.scal2, D.plain, D.plains, gk2, D.dep, D.deps, D.eq, D.eqs, dm2, fApp, getL, gIx, fC, sq, SqD.items, L2.atI, L2.ixN, fCall, gLen, fConsr, fNilr, gSub, gI0, ds_len, q, LIM, z, putL, enD, sgD]
      simp [loop, Tg.bind, st, Fm.d, sqd]
      simp [Fm.d, sqd] at ih2
      exact ih2
end Kx

set_option linter.all false
set_option maxRecDepth 100000
set_option maxHeartbeats 4000000
namespace Kx
open PySem Q
local macro_rules | `(tactic| simp_arith [$as,*] $[$l]?) => `(tactic| simp [runOf, envOf, fSeq, fIfS, fTB, fB, gEq, gNe, gGt, gLt, gLe, gGe, gIB, fVar, fC, gIx, sq, Res.bind, Res.to, L2.atI, L2.ixN, fSet, fMv, fMo, fSetIx, fRet, gMod, gDiv, gI, gAdd, gMul, fCall, fConsr, fNilr, gInt, getL, putL, SqD.items, fOr, fAnd, fOrV, fAndV, fNotV, fNot, fTT, tru, fFn, fCons, fNil, fNext, gLen, rd, fYes, wipeE, Tg.bind, Tg.binds, Res.nx, fZp, srcD, zipD, fSl, gSl, fSomeO, fNoO, fTup, fLst, fLc, List.replicate, D.scal2, D.eq, D.eqs, D.plain, D.plains, D.dep, D.deps, LIM, n1_ne, n1_beq, n1_bne, n1_pos, cut1, srcD_sq, fIf, gTuple, gList, fRaise, gIsN, gNotN, RV.isN, fIsi, isi, subTy, tyGo, tyName, fAny, $as,*] $[$l]?)
mutual
theorem spots_pt : ∀ (f : Fm) (l : List Nat), l ∈ spots f → ∃ g, pt l f = some g
  | .op, l, h => by
    simp [spots] at h
    subst h
    exact ⟨_, rfl⟩
  | .nd s ps, l, h => by
    simp only [spots] at h
    rcases List.mem_cons.mp h with e | h
    · subst e; exact ⟨_, rfl⟩
    · obtain ⟨j, p, m, hj, hm, e⟩ := spA_pt 0 ps l h
      obtain ⟨g, hg⟩ := hm
      refine ⟨g, ?_⟩
      rw [e, Nat.zero_add, pt_snoc .op s ps j p m hj]
      exact hg
theorem spA_pt : ∀ (n : Nat) (ps : List Fm) (l : List Nat), l ∈ spA n ps → ∃ j p m, ps[j]? = some p ∧ (∃ g, pt m p = some g) ∧ l = (n + j) :: m
  | _, [], l, h => by simp [spA] at h
  | n, p :: ps, l, h => by
    simp only [spA] at h
    rcases List.mem_append.mp h with h | h
    · obtain ⟨m, hm, e⟩ := List.mem_map.mp h
      exact ⟨0, p, m, rfl, spots_pt p m hm, e.symm⟩
    · obtain ⟨j, q, m, hj, hm, e⟩ := spA_pt (n + 1) ps l h
      exact ⟨j + 1, q, m, by simpa using hj, hm, by rw [e]; congr 1; omega⟩
end
mutual
theorem pt_spots : ∀ (f g : Fm) (l : List Nat), pt l f = some g → l ∈ spots f
  | .op, g, [], _ => by simp [spots]
  | .op, g, _ :: _, h => by simp [pt] at h
  | .nd s ps, g, [], _ => by simp [spots]
  | .nd s ps, g, i :: l, h => by
    simp only [pt] at h
    cases hp : ps[i]? with
    | none => rw [hp] at h; simp at h
    | some p =>
      rw [hp] at h
      have := pt_spA ps g 0 i l p hp h
      simp only [spots]
      exact List.mem_cons_of_mem _ (by simpa using this)
theorem pt_spA : ∀ (ps : List Fm) (g : Fm) (n i : Nat) (l : List Nat) (p : Fm), ps[i]? = some p → pt l p = some g → ((n + i) :: l) ∈ spA n ps
  | [], g, n, i, l, p, h, _ => by simp at h
  | q :: ps, g, n, 0, l, p, h, hg => by
    have e : q = p := by simpa using h
    have m := pt_spots q g l (by rw [e]; exact hg)
    simp only [spA, Nat.add_zero]
    exact List.mem_append_left _ (List.mem_map.mpr ⟨l, m, rfl⟩)
  | q :: ps, g, n, i + 1, l, p, h, hg => by
    have m := pt_spA ps g (n + 1) i l p (by simpa using h) hg
    have e : n + 1 + i = n + (i + 1) := by omega
    rw [e] at m
    simp only [spA]
    exact List.mem_append_right _ m
end
theorem fSeq_nxt {f g : FS} {env env' : En} {μ μ' : Mu} (h : f env μ = .nxt env' μ') : fSeq f g env μ = g env' μ' := by
  unfold fSeq
  rw [h]
theorem fFor_nxt {fi : FI} {t : Tg} {fb : FS} {env : En} {μ μ1 : Mu} {ds : List D} {r : SRes} (h : fi env μ = .ok ds μ1) (hl : loop t fb ds env μ1 = r) : fFor fi t fb env μ = r := by
  unfold fFor
  rw [h]
  exact hl
theorem map_ok (k : Nat) (f : Fm) (μ : Mu) (hk : f.dp + 3 ≤ k) (hd : f.dp ≤ 999) (hs : f.sz ≤ 1000000) (hf : f.ok = true) : run k 24 [f.d false] μ = .ok (.own ((mp f).map enD)) μ := by
  obtain ⟨k, rfl⟩ : ∃ j, k = j + 1 := ⟨k - 1, by omega⟩
  have e : run (k+1) 24 = runOf 4 (b24 (run k)) := rfl
  rw [e]
  obtain ⟨k, rfl⟩ : ∃ j, k = j + 1 := ⟨k - 1, by omega⟩
  have sp := spots_ok (k+1) f μ (by omega) hd hs
  obtain ⟨a2, a3, L⟩ := map_loop k f μ hf (spots f) [] .un .un (fun l hl => spots_pt f l hl) (by have := spots_len f; simp only [List.length_nil]; omega)
  have L : _ = SRes.nxt [.val (f.d false), .own ((mp f).map enD), a2, a3] μ := L
  have E1 : fSet 1 (fMo (fLst fNil)) [.val (f.d false), .un, .un, .un] μ = .nxt [.val (f.d false), .own (([] : List (List Nat × Sg)).map enD), .un, .un] μ := by
    simp [fSet, fMo, fLst, fNil, Res.bind, Res.to]
  have E2 : fAny (fFn 1 (run (k+1) 18) (fCons (fVar 0) fNil)) [.val (f.d false), .own (([] : List (List Nat × Sg)).map enD), .un, .un] μ = .ok ((spots f).map pl) μ := by
    simp [fAny, fFn, fCons, fVar, fNil, Res.bind, sp]
  unfold runOf
  show (match b24 (run (k+1)) [.val (f.d false), .un, .un, .un] μ with | .ret d μ => Res.ok d μ | .nxt _ μ => .ok (.val .non) μ | .exc e _ μ => .exc e μ | _ => .bad) = _
  unfold b24
  rw [fSeq_nxt E1]
  have E3 := fFor_nxt (t := .nm 2) E2 L
  rw [fSeq_nxt E3]
  rfl
end Kx

set_option linter.all false
set_option maxRecDepth 100000
set_option maxHeartbeats 4000000
namespace Kx
open PySem Q
local macro_rules | `(tactic| simp_arith [$as,*] $[$l]?) => `(tactic| simp [runOf, envOf, fSeq, fIfS, fTB, fB, gEq, gNe, gGt, gLt, gLe, gGe, gIB, fVar, fC, gIx, sq, Res.bind, Res.to, L2.atI, L2.ixN, fSet, fMv, fMo, fSetIx, fRet, gMod, gDiv, gI, gAdd, gMul, fCall, fConsr, fNilr, gInt, getL, putL, SqD.items, fOr, fAnd, fOrV, fAndV, fNotV, fNot, fTT, tru, fFn, fCons, fNil, fNext, gLen, rd, fYes, wipeE, Tg.bind, Tg.binds, Res.nx, fZp, srcD, zipD, fSl, gSl, fSomeO, fNoO, fTup, fLst, fLc, List.replicate, D.scal2, D.eq, D.eqs, D.plain, D.plains, D.dep, D.deps, LIM, n1_ne, n1_beq, n1_bne, n1_pos, cut1, srcD_sq, fIf, gTuple, gList, fRaise, gIsN, gNotN, RV.isN, fIsi, isi, subTy, tyGo, tyName, fAny, $as,*] $[$l]?)
theorem look_ls (f : Fm) (l : List Nat) : ∀ ls : List (List Nat), look (ls.filterMap (en1 f)) l = if l ∈ ls then (pt l f).bind sgo else none
  | [] => by simp [look]
  | m :: ls => by
    have ih := look_ls f l ls
    cases hm : pt m f with
    | none =>
      have en : en1 f m = none := by simp [en1, hm]
      rw [List.filterMap_cons_none en, ih]
      by_cases h : l = m
      · subst h; simp [hm]
      · simp [h]
    | some g =>
      cases g with
      | op =>
        have en : en1 f m = none := by simp [en1, hm]
        rw [List.filterMap_cons_none en, ih]
        by_cases h : l = m
        · subst h; simp [hm, sgo]
        · simp [h]
      | nd s ps =>
        have en : en1 f m = some (m, (s, ps.length)) := by simp [en1, hm]
        rw [List.filterMap_cons_some en]
        simp only [look]
        by_cases h : m = l
        · subst h; simp [hm, sgo]
        · have h' : ¬ l = m := fun z => h z.symm
          rw [if_neg h, ih]
          simp [h']
/-- a form's table tells its signs -/
theorem look_mp (f : Fm) (l : List Nat) : look (mp f) l = (pt l f).bind sgo := by
  unfold mp
  rw [look_ls]
  by_cases h : l ∈ spots f
  · rw [if_pos h]
  · rw [if_neg h]
    cases hp : pt l f with
    | none => rfl
    | some g => exact absurd (pt_spots f g l hp) h
theorem look_app : ∀ (S T : List (List Nat × Sg)) (l : List Nat), look (S ++ T) l = match look S l with | some g => some g | none => look T l
  | [], T, l => rfl
  | x :: S, T, l => by
    simp only [List.cons_append, look]
    by_cases h : x.1 = l
    · simp [h]
    · simp [h, look_app S T l]
theorem mem_mp (f : Fm) (l : List Nat) (g : Sg) : (l, g) ∈ mp f ↔ (pt l f).bind sgo = some g := by
  unfold mp
  rw [List.mem_filterMap]
  constructor
  · rintro ⟨m, hm, e⟩
    unfold en1 at e
    split at e
    · rename_i s ps hp
      cases e
      rw [hp]; rfl
    · cases e
  · intro h
    cases hp : pt l f with
    | none => rw [hp] at h; cases h
    | some x =>
      rw [hp] at h
      cases x with
      | op => cases h
      | nd s ps =>
        cases h
        exact ⟨l, pt_spots f _ l hp, by simp [en1, hp]⟩
end Kx

set_option linter.all false
set_option maxRecDepth 100000
set_option maxHeartbeats 4000000
namespace Kx
open PySem Q
theorem unl_no {s t : Str} {n m : Nat} (h : unl s n t m = false) : s = t ∧ n = m := by
  simp only [unl, Bool.or_eq_false_iff, decide_eq_false_iff_not, Decidable.not_not, ne_eq] at h
  exact ⟨h.2, h.1⟩
theorem agrA_get : ∀ {ps qs : List Fm} {i : Nat} {p q : Fm}, agrA ps qs = true → ps[i]? = some p → qs[i]? = some q → agr p q = true
  | [], _, i, p, q, _, h, _ => by simp at h
  | _ :: _, [], i, p, q, _, _, h => by simp at h
  | a :: ps, b :: qs, 0, p, q, h, h1, h2 => by
    simp only [agrA, Bool.and_eq_true] at h
    have e1 : a = p := by simpa using h1
    have e2 : b = q := by simpa using h2
    subst e1 e2
    exact h.1
  | a :: ps, b :: qs, i + 1, p, q, h, h1, h2 => by
    simp only [agrA, Bool.and_eq_true] at h
    exact agrA_get (i := i) h.2 (by simpa using h1) (by simpa using h2)
theorem joiA_get : ∀ {ps qs : List Fm} {i : Nat} {r : Fm}, (joiA ps qs)[i]? = some r → ∃ p q, ps[i]? = some p ∧ qs[i]? = some q ∧ r = joi p q
  | [], _, i, r, h => by simp [joiA] at h
  | _ :: _, [], i, r, h => by simp [joiA] at h
  | a :: ps, b :: qs, 0, r, h => by
    simp only [joiA, List.getElem?_cons_zero, Option.some.injEq] at h
    exact ⟨a, b, rfl, rfl, h.symm⟩
  | a :: ps, b :: qs, i + 1, r, h => by
    simp only [joiA, List.getElem?_cons_succ] at h
    obtain ⟨p, q, h1, h2, h3⟩ := joiA_get h
    exact ⟨p, q, by simpa using h1, by simpa using h2, h3⟩
/-- both tables, one behind the other, tell the join -/
theorem joi_pt : ∀ (m : List Nat) (f g h : Fm), agr f g = true → pt m (joi f g) = some h → (match (pt m f).bind sgo with | some s => some s | none => (pt m g).bind sgo) = sgo h
  | m, .op, g, h, _, hp => by
    simp only [joi] at hp
    have e : (pt m Fm.op).bind sgo = none := by cases m <;> rfl
    rw [e, hp]
    rfl
  | m, .nd s ps, .op, h, _, hp => by
    simp only [joi] at hp
    have e : (pt m Fm.op).bind sgo = none := by cases m <;> rfl
    rw [e, hp]
    show (match sgo h with | some s => some s | none => none) = sgo h
    cases sgo h <;> rfl
  | [], .nd s ps, .nd t qs, h, ha, hp => by
    simp only [agr] at ha
    split at ha
    · cases ha
    · rename_i hu
      obtain ⟨e1, e2⟩ := unl_no (by simpa using hu)
      simp only [joi, pt, Option.some.injEq] at hp
      subst hp
      have l := A_len joi joiA joiA0 (fun _ _ _ _ => by simp [joiA]) ps qs
      simp only [pt, Option.bind_some, sgo]
      rw [l, e2, Nat.min_self]
  | i :: m, .nd s ps, .nd t qs, h, ha, hp => by
    simp only [agr] at ha
    split at ha
    · cases ha
    · simp only [joi, pt] at hp
      cases hr : (joiA ps qs)[i]? with
      | none => rw [hr] at hp; simp at hp
      | some r =>
        rw [hr] at hp
        obtain ⟨p, q, h1, h2, h3⟩ := joiA_get hr
        subst h3
        have ih := joi_pt m p q h (agrA_get ha h1 h2) hp
        simp only [pt, h1, h2]
        exact ih
theorem joi_tab (f g : Fm) (ha : agr f g = true) (m : List Nat) (h : Fm) (hp : pt m (joi f g) = some h) : look (mp f ++ mp g) m = sgo h := by
  rw [look_app, look_mp, look_mp]
  exact joi_pt m f g h ha hp
end Kx

set_option linter.all false
set_option maxRecDepth 100000
set_option maxHeartbeats 4000000
namespace Kx
open PySem Q
theorem look_mem : ∀ {T : List (List Nat × Sg)} {l : List Nat} {s : Sg}, look T l = some s → (l, s) ∈ T
  | [], l, s, h => by simp [look] at h
  | x :: T, l, s, h => by
    simp only [look] at h
    by_cases e : x.1 = l
    · rw [if_pos e] at h
      cases h
      subst e
      exact List.mem_cons_self
    · rw [if_neg e] at h
      exact List.mem_cons_of_mem _ (look_mem h)
theorem look_filter (F : List Nat → Option Sg) (c : List Nat → Sg → Bool) (l : List Nat) : ∀ T : List (List Nat × Sg), (∀ x ∈ T, F x.1 = some x.2) → look (T.filter fun x => c x.1 x.2) l = match look T l with | some s => if c l s then some s else none | none => none
  | [], _ => rfl
  | x :: T, h => by
    have ih := look_filter F c l T fun y hy => h y (List.mem_cons_of_mem _ hy)
    have hx := h x List.mem_cons_self
    obtain ⟨m, s⟩ := x
    simp only [look]
    by_cases e : m = l
    · subst e
      simp only [if_true]
      cases hc : c m s with
      | true =>
        rw [List.filter_cons_of_pos (by simpa using hc)]
        simp [look]
      | false =>
        rw [List.filter_cons_of_neg (by simpa using hc), ih]
        cases hl : look T m with
        | none => simp
        | some s2 =>
          have q := h (m, s2) (List.mem_cons_of_mem _ (look_mem hl))
          have hx : F m = some s := hx
          have q : F m = some s2 := q
          rw [hx] at q
          cases q
          simp [hc]
    · simp only [if_neg e]
      cases hc : c m s with
      | true =>
        rw [List.filter_cons_of_pos (by simpa using hc)]
        simp only [look, if_neg e]
        exact ih
      | false =>
        rw [List.filter_cons_of_neg (by simpa using hc)]
        exact ih
/-- what both say alike -/
def both (f g : Fm) : List (List Nat × Sg) := (mp f).filter fun x => decide (look (mp g) x.1 = some x.2)
theorem look_both (f g : Fm) (l : List Nat) : look (both f g) l = match (pt l f).bind sgo with | some s => if (pt l g).bind sgo = some s then some s else none | none => none := by
  have q := look_filter (fun l => (pt l f).bind sgo) (fun l s => decide (look (mp g) l = some s)) l (mp f) fun x hx => (mem_mp f x.1 x.2).mp hx
  unfold both
  rw [q, look_mp]
  cases (pt l f).bind sgo with
  | none => rfl
  | some s => simp [look_mp]
theorem meeA_get : ∀ {ps qs : List Fm} {i : Nat} {r : Fm}, (meeA ps qs)[i]? = some r → ∃ p q, ps[i]? = some p ∧ qs[i]? = some q ∧ r = mee p q
  | [], _, i, r, h => by simp [meeA] at h
  | _ :: _, [], i, r, h => by simp [meeA] at h
  | a :: ps, b :: qs, 0, r, h => by
    simp only [meeA, List.getElem?_cons_zero, Option.some.injEq] at h
    exact ⟨a, b, rfl, rfl, h.symm⟩
  | a :: ps, b :: qs, i + 1, r, h => by
    simp only [meeA, List.getElem?_cons_succ] at h
    obtain ⟨p, q, h1, h2, h3⟩ := meeA_get h
    exact ⟨p, q, by simpa using h1, by simpa using h2, h3⟩
theorem mee_pt : ∀ (m : List Nat) (f g h : Fm), pt m (mee f g) = some h → (match (pt m f).bind sgo with | some s => if (pt m g).bind sgo = some s then some s else none | none => none) = sgo h
  | [], .op, g, h, hp => by
    simp only [mee, pt, Option.some.injEq] at hp
    subst hp
    rfl
  | [], .nd s ps, .op, h, hp => by
    simp only [mee, pt, Option.some.injEq] at hp
    subst hp
    simp [pt, sgo]
  | [], .nd s ps, .nd t qs, h, hp => by
    simp only [mee] at hp
    split at hp
    · rename_i hu
      simp only [pt, Option.some.injEq] at hp
      subst hp
      have ne : ¬ ((t, qs.length) = (s, ps.length)) := fun z => by
        injection z with z1 z2
        simp [unl, z1, z2] at hu
      simp only [pt, Option.bind_some, sgo, Option.some.injEq, if_neg ne]
    · rename_i hu
      obtain ⟨e1, e2⟩ := unl_no (by simpa using hu)
      simp only [pt, Option.some.injEq] at hp
      subst hp
      have l := A_len mee meeA meeA0 (fun _ _ _ _ => by simp [meeA]) ps qs
      simp only [pt, Option.bind_some, sgo, e1, e2, if_true]
      rw [l, e2, Nat.min_self]
  | i :: m, .op, g, h, hp => by simp [mee, pt] at hp
  | i :: m, .nd s ps, .op, h, hp => by simp [mee, pt] at hp
  | i :: m, .nd s ps, .nd t qs, h, hp => by
    simp only [mee] at hp
    split at hp
    · simp [pt] at hp
    · simp only [pt] at hp
      cases hr : (meeA ps qs)[i]? with
      | none => rw [hr] at hp; simp at hp
      | some r =>
        rw [hr] at hp
        obtain ⟨p, q, h1, h2, h3⟩ := meeA_get hr
        subst h3
        have ih := mee_pt m p q h hp
        simp only [pt, h1, h2]
        exact ih
theorem mee_tab (f g : Fm) (m : List Nat) (h : Fm) (hp : pt m (mee f g) = some h) : look (both f g) m = sgo h := by
  rw [look_both]
  exact mee_pt m f g h hp
end Kx

set_option linter.all false
set_option maxRecDepth 100000
set_option maxHeartbeats 4000000
namespace Kx
open PySem Q
theorem liesA_get : ∀ {ps qs : List Fm} {i : Nat} {p q : Fm}, liesA ps qs = true → ps[i]? = some p → qs[i]? = some q → lies p q = true
  | [], _, i, p, q, _, h, _ => by simp at h
  | _ :: _, [], i, p, q, _, _, h => by simp at h
  | a :: ps, b :: qs, 0, p, q, h, h1, h2 => by
    simp only [liesA, Bool.and_eq_true] at h
    have e1 : a = p := by simpa using h1
    have e2 : b = q := by simpa using h2
    subst e1 e2
    exact h.1
  | a :: ps, b :: qs, i + 1, p, q, h, h1, h2 => by
    simp only [liesA, Bool.and_eq_true] at h
    exact liesA_get (i := i) h.2 (by simpa using h1) (by simpa using h2)
theorem lies_to : ∀ (l : List Nat) (f g : Fm) (s : Sg), lies f g = true → (pt l f).bind sgo = some s → (pt l g).bind sgo = some s
  | l, .op, g, s, _, h => by cases l <;> simp [pt, sgo] at h
  | l, .nd _ _, .op, s, h, _ => by simp [lies] at h
  | [], .nd a ps, .nd b qs, s, h, hs => by
    simp only [lies] at h
    split at h
    · cases h
    · rename_i hu
      obtain ⟨e1, e2⟩ := unl_no (by simpa using hu)
      simp only [pt, Option.bind_some, sgo] at hs ⊢
      rw [← e1, ← e2]
      exact hs
  | i :: l, .nd a ps, .nd b qs, s, h, hs => by
    simp only [lies] at h
    split at h
    · cases h
    · rename_i hu
      obtain ⟨e1, e2⟩ := unl_no (by simpa using hu)
      simp only [pt] at hs ⊢
      cases hp : ps[i]? with
      | none => rw [hp] at hs; simp at hs
      | some p =>
        have li : i < ps.length := (List.getElem?_eq_some_iff.mp hp).1
        have hq : qs[i]? = some qs[i] := List.getElem?_eq_getElem (by omega)
        rw [hp] at hs
        rw [hq]
        exact lies_to l p _ s (liesA_get h hp hq) hs
mutual
theorem lies_of : ∀ (f g : Fm), (∀ (l : List Nat) (s : Sg), (pt l f).bind sgo = some s → (pt l g).bind sgo = some s) → lies f g = true
  | .op, g, _ => by simp [lies]
  | .nd a ps, .op, h => by
    have := h [] (a, ps.length) rfl
    simp [pt, sgo] at this
  | .nd a ps, .nd b qs, h => by
    have h0 := h [] (a, ps.length) rfl
    simp only [pt, Option.bind_some, sgo, Option.some.injEq, Prod.mk.injEq] at h0
    have hu : unl a ps.length b qs.length = false := by simp [unl, h0.1, h0.2]
    simp only [lies, hu, Bool.false_eq_true, if_false]
    refine liesA_of ps qs fun i p q h1 h2 l s hs => ?_
    have := h (i :: l) s (by simp only [pt, h1]; exact hs)
    simp only [pt, h2] at this
    exact this
theorem liesA_of : ∀ (ps qs : List Fm), (∀ (i : Nat) (p q : Fm), ps[i]? = some p → qs[i]? = some q → ∀ (l : List Nat) (s : Sg), (pt l p).bind sgo = some s → (pt l q).bind sgo = some s) → liesA ps qs = true
  | [], _, _ => by simp [liesA]
  | _ :: _, [], _ => by simp [liesA]
  | p :: ps, q :: qs, h => by
    simp only [liesA, Bool.and_eq_true]
    exact ⟨lies_of p q (h 0 p q rfl rfl), liesA_of ps qs fun i p' q' h1 h2 => h (i + 1) p' q' (by simpa using h1) (by simpa using h2)⟩
end
/-- one lies in the other, by the tables -/
theorem lies_tab (f g : Fm) : ((mp f).filter fun x => !decide (look (mp g) x.1 = some x.2)).isEmpty = lies f g := by
  cases h : lies f g with
  | true =>
    rw [List.isEmpty_iff, List.filter_eq_nil_iff]
    intro x hx
    have := lies_to x.1 f g x.2 h ((mem_mp f x.1 x.2).mp hx)
    rw [← look_mp] at this
    simp [this]
  | false =>
    cases he : ((mp f).filter fun x => !decide (look (mp g) x.1 = some x.2)).isEmpty with
    | false => rfl
    | true =>
      rw [List.isEmpty_iff, List.filter_eq_nil_iff] at he
      have : lies f g = true := lies_of f g fun l s hs => by
        have q := he (l, s) ((mem_mp f l s).mpr hs)
        rw [← look_mp]
        simpa using q
      rw [this] at h
      cases h
end Kx

set_option linter.all false
set_option maxRecDepth 100000
set_option maxHeartbeats 4000000
namespace Kx
open PySem Q
/-- at l both have signs, and other ones -/
def OddAt (f g : Fm) (l : List Nat) : Prop := ∃ s t, (pt l f).bind sgo = some s ∧ (pt l g).bind sgo = some t ∧ s ≠ t
theorem oddA_none : ∀ {ps qs : List Fm} {n i : Nat} {p q : Fm}, oddA n ps qs = none → ps[i]? = some p → qs[i]? = some q → odd p q = none
  | [], _, n, i, p, q, _, h, _ => by simp at h
  | _ :: _, [], n, i, p, q, _, _, h => by simp at h
  | a :: ps, b :: qs, n, i, p, q, h, h1, h2 => by
    simp only [oddA] at h
    cases e : odd a b with
    | some l => rw [e] at h; simp at h
    | none =>
      rw [e] at h
      cases i with
      | zero =>
        have e1 : a = p := by simpa using h1
        have e2 : b = q := by simpa using h2
        rw [← e1, ← e2, e]
      | succ i => exact oddA_none (n := n + 1) (i := i) h (by simpa using h1) (by simpa using h2)
theorem oddA_some : ∀ {ps qs : List Fm} {n : Nat} {l : List Nat}, oddA n ps qs = some l → ∃ i m p q, l = (n + i) :: m ∧ ps[i]? = some p ∧ qs[i]? = some q ∧ odd p q = some m ∧ ∀ (j : Nat) (p' q' : Fm), j < i → ps[j]? = some p' → qs[j]? = some q' → odd p' q' = none
  | [], _, n, l, h => by simp [oddA] at h
  | _ :: _, [], n, l, h => by simp [oddA] at h
  | a :: ps, b :: qs, n, l, h => by
    simp only [oddA] at h
    cases e : odd a b with
    | some m =>
      rw [e] at h
      cases h
      exact ⟨0, m, a, b, rfl, rfl, rfl, e, fun j p' q' hj => by omega⟩
    | none =>
      rw [e] at h
      obtain ⟨i, m, p, q, h1, h2, h3, h4, h5⟩ := oddA_some h
      refine ⟨i + 1, m, p, q, by rw [h1]; congr 1; omega, by simpa using h2, by simpa using h3, h4, fun j p' q' hj hp hq => ?_⟩
      cases j with
      | zero =>
        have e1 : a = p' := by simpa using hp
        have e2 : b = q' := by simpa using hq
        rw [← e1, ← e2, e]
      | succ j => exact h5 j p' q' (by omega) (by simpa using hp) (by simpa using hq)
theorem odd_no : ∀ (l : List Nat) (f g : Fm), odd f g = none → ¬ OddAt f g l
  | l, .op, g, _, ⟨s, t, h1, _, _⟩ => by cases l <;> simp [pt, sgo] at h1
  | l, .nd _ _, .op, _, ⟨s, t, _, h2, _⟩ => by cases l <;> simp [pt, sgo] at h2
  | [], .nd a ps, .nd b qs, h, ⟨s, t, h1, h2, ne⟩ => by
    simp only [odd] at h
    split at h
    · cases h
    · rename_i hu
      obtain ⟨e1, e2⟩ := unl_no (by simpa using hu)
      simp only [pt, Option.bind_some, sgo, Option.some.injEq] at h1 h2
      exact ne (by rw [← h1, ← h2, e1, e2])
  | i :: l, .nd a ps, .nd b qs, h, ⟨s, t, h1, h2, ne⟩ => by
    simp only [odd] at h
    split at h
    · cases h
    · simp only [pt] at h1 h2
      cases hp : ps[i]? with
      | none => rw [hp] at h1; simp at h1
      | some p =>
        cases hq : qs[i]? with
        | none => rw [hq] at h2; simp at h2
        | some q =>
          rw [hp] at h1
          rw [hq] at h2
          exact odd_no l p q (oddA_none h hp hq) ⟨s, t, h1, h2, ne⟩
theorem odd_yes : ∀ (l : List Nat) (f g : Fm), odd f g = some l → OddAt f g l ∧ ∀ m, OddAt f g m → ltN m l = false
  | l, .op, g, h => by simp [odd] at h
  | l, .nd _ _, .op, h => by simp [odd] at h
  | l, .nd a ps, .nd b qs, h => by
    simp only [odd] at h
    split at h
    · rename_i hu
      cases h
      refine ⟨⟨(a, ps.length), (b, qs.length), rfl, rfl, fun z => ?_⟩, fun m _ => by simp [ltN]⟩
      injection z with z1 z2
      simp [unl, z1, z2] at hu
    · rename_i hu
      obtain ⟨u1, u2⟩ := unl_no (by simpa using hu)
      obtain ⟨i, k, p, q, h1, h2, h3, h4, h5⟩ := oddA_some h
      rw [Nat.zero_add] at h1
      cases l with
      | nil => cases h1
      | cons i' k' =>
        injection h1 with z1 z2
        subst z1 z2
        obtain ⟨ih1, ih2⟩ := odd_yes _ p q h4
        obtain ⟨s, t, s1, s2, ne⟩ := ih1
        refine ⟨⟨s, t, by simp only [pt, h2]; exact s1, by simp only [pt, h3]; exact s2, ne⟩, fun m hm => ?_⟩
        obtain ⟨s', t', m1, m2, ne'⟩ := hm
        cases m with
        | nil =>
          simp only [pt, Option.bind_some, sgo, Option.some.injEq] at m1 m2
          exact absurd (by rw [← m1, ← m2, u1, u2]) ne'
        | cons j m =>
          simp only [pt] at m1 m2
          cases hp : ps[j]? with
          | none => rw [hp] at m1; simp at m1
          | some p' =>
            cases hq : qs[j]? with
            | none => rw [hq] at m2; simp at m2
            | some q' =>
              rw [hp] at m1
              rw [hq] at m2
              simp only [ltN]
              by_cases e : j = i'
              · subst e
                rw [h2] at hp
                rw [h3] at hq
                cases hp
                cases hq
                rw [if_pos rfl]
                exact ih2 m ⟨s', t', m1, m2, ne'⟩
              · rw [if_neg e]
                refine decide_eq_false fun lt => ?_
                exact odd_no m p' q' (h5 j p' q' lt hp hq) ⟨s', t', m1, m2, ne'⟩
end Kx

set_option linter.all false
set_option maxRecDepth 100000
set_option maxHeartbeats 4000000
namespace Kx
open PySem Q
def okT (T : List (List Nat × Sg)) : Prop := ∀ x ∈ T, PyData.strOk x.2.1 = true
theorem okT_mp (f : Fm) (h : f.ok = true) : okT (mp f) := fun x hx => by
  have q := (mem_mp f x.1 x.2).mp hx
  cases hp : pt x.1 f with
  | none => rw [hp] at q; cases q
  | some g =>
    rw [hp] at q
    have k := pt_ok x.1 f g hp h
    cases g with
    | op => cases q
    | nd s ps =>
      have q : (s, ps.length) = x.2 := by injection q
      simp only [Fm.ok, Bool.and_eq_true] at k
      rw [← q]
      exact k.1
theorem plain_en : ∀ {T : List (List Nat × Sg)}, okT T → D.plains (T.map enD) = true
  | [], _ => rfl
  | x :: T, h => by
    have h1 := h x List.mem_cons_self
    have h2 := plain_en (T := T) fun y hy => h y (List.mem_cons_of_mem _ hy)
    simp [D.plains, D.plain, enD, pl, sgD, pl_plain, h1, h2]
theorem oS_plain {o : Option Sg} (h : ∀ g, o = some g → PyData.strOk g.1 = true) : D.plain (oS o) = true := by
  cases o with
  | none => rfl
  | some g => simp [oS, sgD, D.plain, D.plains, h g rfl]
theorem oS_dep (o : Option Sg) : D.dep (oS o) ≤ 1 := by
  cases o with
  | none => simp [oS, D.dep]
  | some g => simp [oS, sgD, D.dep, D.deps]
theorem sg_eq (g s : Sg) : D.eq (sgD g) (sgD s) = decide (g = s) := by
  obtain ⟨a, n⟩ := g
  obtain ⟨b, m⟩ := s
  have e : ((n : Int) == (m : Int)) = decide (n = m) := by
    by_cases h : n = m
    · simp [h]
    · have : ¬ (n : Int) = (m : Int) := by omega
      simp [h, this]
  have e2 : (a == b) = decide (a = b) := by
    cases h : a == b with
    | true => simp [eq_of_beq h]
    | false =>
      have : ¬ a = b := fun z => by rw [z] at h; simp at h
      simp [this]
  simp [sgD, D.eq, D.eqs, e, e2, Prod.mk.injEq, Bool.decide_and]
theorem oS_eq (o : Option Sg) (s : Sg) : D.eq (oS o) (sgD s) = decide (o = some s) := by
  cases o with
  | none => simp [oS, sgD, D.eq]
  | some g => simp [oS, sg_eq]
theorem gNe_plain {a b : D} {env : En} {μ : Mu} (h1 : D.plain a = true) (h2 : D.plain b = true) (h3 : min (D.dep a) (D.dep b) ≤ 64) (ha : ∀ n, a ≠ .loc n) (hb : ∀ n, b ≠ .loc n) : gNe env (.val a) (.val b) μ = .ok (.val (.bl (!D.eq a b))) μ := by
  have r1 : rd env μ (.val a) = some a := by cases a <;> first | rfl | exact absurd rfl (ha _)
  have r2 : rd env μ (.val b) = some b := by cases b <;> first | rfl | exact absurd rfl (hb _)
  unfold gNe
  rw [r1, r2]
  simp [h1, h2, h3]
theorem gEq_plain {a b : D} {env : En} {μ : Mu} (h1 : D.plain a = true) (h2 : D.plain b = true) (h3 : min (D.dep a) (D.dep b) ≤ 64) (ha : ∀ n, a ≠ .loc n) (hb : ∀ n, b ≠ .loc n) : gEq env (.val a) (.val b) μ = .ok (.val (.bl (D.eq a b))) μ := by
  have r1 : rd env μ (.val a) = some a := by cases a <;> first | rfl | exact absurd rfl (ha _)
  have r2 : rd env μ (.val b) = some b := by cases b <;> first | rfl | exact absurd rfl (hb _)
  unfold gEq
  rw [r1, r2]
  simp [h1, h2, h3]
end Kx

set_option linter.all false
set_option maxRecDepth 100000
set_option maxHeartbeats 4000000
namespace Kx
open PySem Q
theorem look_plain {S : List (List Nat × Sg)} (h : okT S) (l : List Nat) : ∀ g, look S l = some g → PyData.strOk g.1 = true := fun g hg => h _ (look_mem hg)
/-- a row of entries, those that are taken -/
theorem flt_loop (i : Nat) (ft : FT) (env : En) (c : List Nat × Sg → Bool) (μ : Mu) (hi : i < env.length) : ∀ (T : List (List Nat × Sg)) (acc : List D), (∀ x ∈ T, ft (env.set i (.val (enD x))) μ = .ok (c x) μ) →
    lcLoop (.nm i) ft (fVar i) env (T.map enD) μ acc = .ok (acc ++ (T.filter c).map enD) μ
  | [], acc, _ => by simp [lcLoop]
  | x :: T, acc, h => by
    have h1 := h x List.mem_cons_self
    have v : fVar i (env.set i (.val (enD x))) μ = .ok (.val (enD x)) μ := by simp [fVar, hi]
    cases hc : c x with
    | true =>
      have ih := flt_loop i ft env c μ hi T (acc ++ [enD x]) fun y hy => h y (List.mem_cons_of_mem _ hy)
      rw [hc] at h1
      rw [List.filter_cons_of_pos hc]
      simp [lcLoop, Tg.bind, hi, h1, v, Res.nx, Res.bind, ih]
    | false =>
      have ih := flt_loop i ft env c μ hi T acc fun y hy => h y (List.mem_cons_of_mem _ hy)
      rw [hc] at h1
      rw [List.filter_cons_of_neg (by simp [hc])]
      simp [lcLoop, Tg.bind, hi, h1, Res.nx, Res.bind, ih]
theorem en_at0 (x : List Nat × Sg) (env : En) (μ : Mu) : gIx env (.val (enD x)) (.val (.int 0)) μ = .ok (.val (pl x.1)) μ := by
  simp [gIx, enD, sq, SqD.items, L2.atI, L2.ixN]
theorem en_at1 (x : List Nat × Sg) (env : En) (μ : Mu) : gIx env (.val (enD x)) (.val (.int 1)) μ = .ok (.val (sgD x.2)) μ := by
  simp [gIx, enD, sq, SqD.items, L2.atI, L2.ixN]
end Kx

set_option linter.all false
set_option maxRecDepth 100000
set_option maxHeartbeats 4000000
namespace Kx
open PySem Q
theorem pl_ne (l : List Nat) : ∀ n, pl l ≠ .loc n := fun n z => by simp [pl] at z
theorem oS_ne (o : Option Sg) : ∀ n, oS o ≠ .loc n := fun n z => by cases o <;> simp [oS, sgD] at z
theorem sg_ne (s : Sg) : ∀ n, sgD s ≠ .loc n := fun n z => by simp [sgD] at z
theorem sg_plain {s : Sg} (h : PyData.strOk s.1 = true) : D.plain (sgD s) = true := by simp [sgD, D.plain, D.plains, h]
/-- the table's entry at x's place is (not) x's -/
theorem ask_no (k : Nat) (S : List (List Nat × Sg)) (x : List Nat × Sg) (e0 : EV) (μ : Mu) (hS : okT S) (hx : PyData.strOk x.2.1 = true) :
    fTB (fB gNe (fFn 2 (run (k+1) 25) (fCons (fVar 1) (fCons (fB gIx (fVar 2) (fC (.int 0))) fNil))) (fB gIx (fVar 2) (fC (.int 1)))) [e0, .val (.lst (S.map enD)), .val (enD x)] μ = .ok (!decide (look S x.1 = some x.2)) μ := by
  have h1 := look_ok k S x.1 μ
  have h2 := gNe_plain (a := oS (look S x.1)) (b := sgD x.2) (env := [e0, .val (.lst (S.map enD)), .val (enD x)]) (μ := μ) (oS_plain (look_plain hS x.1)) (sg_plain hx) (by have := oS_dep (look S x.1); omega) (oS_ne _) (sg_ne _)
  rw [oS_eq] at h2
  simp [fTB, fB, fFn, fCons, fVar, fC, fNil, Res.bind, en_at0, en_at1, h1, h2]
theorem eqs_nil (X : List D) : D.eqs X [] = X.isEmpty := by cases X <;> rfl
theorem in_ok (k : Nat) (T S : List (List Nat × Sg)) (μ : Mu) (hT : okT T) (hS : okT S) (hl : T.length ≤ 1000000) : run (k+2) 28 [.lst (T.map enD), .lst (S.map enD)] μ = .ok (.val (.bl (T.filter fun x => !decide (look S x.1 = some x.2)).isEmpty)) μ := by
  have e : run (k+2) 28 = runOf 3 (b28 (run (k+1))) := rfl
  rw [e]
  have L := flt_loop 2 (fTB (fB gNe (fFn 2 (run (k+1) 25) (fCons (fVar 1) (fCons (fB gIx (fVar 2) (fC (.int 0))) fNil))) (fB gIx (fVar 2) (fC (.int 1))))) [.val (.lst (T.map enD)), .val (.lst (S.map enD)), .un] (fun x => !decide (look S x.1 = some x.2)) μ (by simp) T [] fun x hx => ask_no k S x _ μ hS (hT x hx)
  have C := fLc_eq (fi := fAny (fVar 0)) (t := .nm 2) (vs := [2]) (env := [.val (.lst (T.map enD)), .val (.lst (S.map enD)), .un]) (μ := μ) (by simp [fAny, fVar]) (by rw [List.length_map, LIM]; omega) L
  have p : okT (T.filter fun x => !decide (look S x.1 = some x.2)) := fun x hx => hT x (List.mem_filter.mp hx).1
  have q := gEq_plain (a := .lst ((T.filter fun x => !decide (look S x.1 = some x.2)).map enD)) (b := .lst []) (env := [.val (.lst (T.map enD)), .val (.lst (S.map enD)), .un]) (μ := μ) (plain_en p) rfl (by simp [D.dep, D.deps]) (fun n z => by cases z) (fun n z => by cases z)
  have g := fB_eq gEq C (show fLst fNil [.val (.lst (T.map enD)), .val (.lst (S.map enD)), .un] μ = .ok (.val (.lst [])) μ by simp [fLst, fNil, Res.bind])
  simp only [List.nil_append] at g
  rw [q] at g
  have z : D.eq (.lst ((T.filter fun x => !decide (look S x.1 = some x.2)).map enD)) (.lst []) = (T.filter fun x => !decide (look S x.1 = some x.2)).isEmpty := by
    simp [D.eq, eqs_nil]
  rw [z] at g
  unfold runOf b28
  show (match fRet (fMv _) [.val (.lst (T.map enD)), .val (.lst (S.map enD)), .un] μ with | .ret d μ => Res.ok d μ | .nxt _ μ => .ok (.val .non) μ | .exc e _ μ => .exc e μ | _ => .bad) = _
  unfold fRet fMv
  rw [g]
  rfl
end Kx

set_option linter.all false
set_option maxRecDepth 100000
set_option maxHeartbeats 4000000
namespace Kx
open PySem Q
theorem cmps_ints : ∀ l m : List Nat, D.cmps (l.map fun (n : Nat) => D.int (n : Int)) (m.map fun (n : Nat) => D.int (n : Int)) = true
  | [], m => by cases m <;> simp [D.cmps]
  | _ :: _, [] => by simp [D.cmps]
  | n :: l, k :: m => by simp [D.cmps, D.cmp, cmps_ints l m]
theorem pl_cmp (l m : List Nat) : D.cmp (pl l) (pl m) = true := by simp [pl, D.cmp, cmps_ints]
theorem pl_pl (l : List Nat) : D.plain (pl l) = true := by simp [pl, D.plain, pl_plain]
theorem pl_d1 (l : List Nat) : D.dep (pl l) = 1 := by simp [pl, D.dep, pl_dep]
theorem lts_ints : ∀ l m : List Nat, D.lts (l.map fun (n : Nat) => D.int (n : Int)) (m.map fun (n : Nat) => D.int (n : Int)) = ltN l m
  | l, [] => by cases l <;> simp [D.lts, ltN]
  | [], _ :: _ => by simp [D.lts, ltN]
  | n :: l, k :: m => by
    have e : ((n : Int) == (k : Int)) = decide (n = k) := by
      by_cases h : n = k
      · simp [h]
      · have : ¬ (n : Int) = (k : Int) := by omega
        simp [h, this]
    simp [D.lts, ltN, D.eq, D.lt, e, lts_ints l m]
theorem pl_lt (l m : List Nat) : D.lt (pl l) (pl m) = ltN l m := by simp [pl, D.lt, lts_ints]
theorem okay_pl (ls : List (List Nat)) : Okay (ls.map pl) where
  cmp := fun d hd e he => by
    obtain ⟨l, _, rfl⟩ := List.mem_map.mp hd
    obtain ⟨m, _, rfl⟩ := List.mem_map.mp he
    exact pl_cmp l m
  pl := fun d hd => by
    obtain ⟨l, _, rfl⟩ := List.mem_map.mp hd
    exact pl_pl l
  dp := fun d hd => by
    obtain ⟨l, _, rfl⟩ := List.mem_map.mp hd
    rw [pl_d1]; omega
theorem plains_pl : ∀ ls : List (List Nat), D.plains (ls.map pl) = true
  | [] => rfl
  | l :: ls => by simp [D.plains, pl_pl, plains_pl ls]
theorem deps_pl : ∀ ls : List (List Nat), D.deps (ls.map pl) ≤ 1
  | [] => by simp [D.deps]
  | l :: ls => by
    have := deps_pl ls
    simp only [List.map_cons, D.deps, pl_d1]; omega
theorem sortable_pl (ls : List (List Nat)) : sortable (ls.map pl) = true := by
  have h := okay_pl ls
  unfold sortable
  simp only [Bool.and_eq_true, List.all_eq_true, decide_eq_true_eq]
  exact ⟨⟨fun d hd e he => h.cmp d hd e he, plains_pl ls⟩, by have := deps_pl ls; omega⟩
/-- the first of a sorted row -/
theorem isort_head {ds : List D} (h : Okay ds) {x : D} (hx : x ∈ ds) (hl : ∀ y ∈ ds, D.lt y x = false) : (isort ds)[0]? = some x := by
  have hlt : ∀ a b, a ∈ ds → b ∈ ds → PySem.W.dataLt (D.py a) (D.py b) = D.lt a b := fun a b ha hb => lt_py a b (h.cmp a ha b hb) (h.pl a ha) (h.pl b hb)
  have s := isort_pw (S := (· ∈ ds)) hlt ds fun y hy => hy
  have p := isort_perm ds
  cases e : isort ds with
  | nil =>
    rw [e] at p
    exact absurd (p.mem_iff.mpr hx) (by simp)
  | cons y r =>
    rw [e] at s p
    have hy : y ∈ ds := p.mem_iff.mp List.mem_cons_self
    show some y = some x
    rcases List.mem_cons.mp (p.mem_iff.mpr hx) with q | q
    · rw [q]
    · have le := (List.pairwise_cons.mp s).1 x q
      have le : (!PySem.W.dataLt (D.py x) (D.py y)) = true := le
      rw [hlt x y hx hy] at le
      have := lt_tri y x (h.cmp y hy x hx) (hl y hy) (by simpa using le)
      rw [this]
end Kx

set_option linter.all false
set_option maxRecDepth 100000
set_option maxHeartbeats 4000000
namespace Kx
open PySem Q
/-- x's place is odd by the table S -/
def oddT (S : List (List Nat × Sg)) (x : List Nat × Sg) : Bool := match look S x.1 with
  | some t => !decide (t = x.2)
  | none => false
abbrev oddB (k : Nat) : FS := fSeq (fSet 5 (fMv (fFn 2 (run (k+1) 25) (fCons (fVar 1) (fCons (fVar 3) fNil))))) (fIfS (fAnd (fTB (fB gNotN (fVar 5) (fC .non))) (fTB (fB gNe (fVar 5) (fVar 4)))) (fApp 2 (fVar 3)) fNext)
theorem oddB_ok (k : Nat) (S : List (List Nat × Sg)) (x : List Nat × Sg) (e0 e5 : EV) (found : List D) (μ : Mu) (hS : okT S) (hx : PyData.strOk x.2.1 = true) (hl : found.length < 16777216) :
    oddB k [e0, .val (.lst (S.map enD)), .own found, .val (pl x.1), .val (sgD x.2), e5] μ = .nxt [e0, .val (.lst (S.map enD)), .own (if oddT S x then found ++ [pl x.1] else found), .val (pl x.1), .val (sgD x.2), .val (oS (look S x.1))] μ := by
  have h1 := look_ok k S x.1 μ
  have E1 : fSet 5 (fMv (fFn 2 (run (k+1) 25) (fCons (fVar 1) (fCons (fVar 3) fNil)))) [e0, .val (.lst (S.map enD)), .own found, .val (pl x.1), .val (sgD x.2), e5] μ = .nxt [e0, .val (.lst (S.map enD)), .own found, .val (pl x.1), .val (sgD x.2), .val (oS (look S x.1))] μ := by
    simp [fSet, fMv, fFn, fCons, fVar, fNil, Res.bind, Res.to, h1]
  unfold oddB
  rw [fSeq_nxt E1]
  have h2 := gNe_plain (a := oS (look S x.1)) (b := sgD x.2) (env := [e0, .val (.lst (S.map enD)), .own found, .val (pl x.1), .val (sgD x.2), .val (oS (look S x.1))]) (μ := μ) (oS_plain (look_plain hS x.1)) (sg_plain hx) (by have := oS_dep (look S x.1); omega) (oS_ne _) (sg_ne _)
  rw [oS_eq] at h2
  cases hk : look S x.1 with
  | none => simp [fIfS, fAnd, fTB, fB, fVar, fC, gNotN, RV.isN, oS, Res.bind, Res.to, fNext, oddT, hk]
  | some t =>
    rw [hk] at h2
    have n : RV.isN (.val (sgD t)) = false := by simp [RV.isN, sgD]
    by_cases e : t = x.2
    · simp [e, oS] at h2
      subst e
      simp [fIfS, fAnd, fTB, fB, fVar, fC, gNotN, n, oS, Res.bind, Res.to, fNext, oddT, hk, h2]
    · simp [e, oS] at h2
      simp [fIfS, fAnd, fTB, fB, fVar, fC, gNotN, n, oS, Res.bind, Res.to, fNext, oddT, hk, h2, e, fApp, getL, putL, LIM, hl]
theorem oddL_loop (k : Nat) (S : List (List Nat × Sg)) (e0 : EV) (μ : Mu) (hS : okT S) : ∀ (T : List (List Nat × Sg)) (found : List D) (e3 e4 e5 : EV), okT T → found.length + T.length ≤ 1000000 →
    ∃ a3 a4 a5, loop (.tp [(.nm 3), (.nm 4)]) (oddB k) (T.map enD) [e0, .val (.lst (S.map enD)), .own found, e3, e4, e5] μ = .nxt [e0, .val (.lst (S.map enD)), .own (found ++ (T.filter (oddT S)).map fun x => pl x.1), a3, a4, a5] μ
  | [], found, e3, e4, e5, _, _ => ⟨e3, e4, e5, by simp [loop]⟩
  | x :: T, found, e3, e4, e5, hT, hl => by
    simp only [List.length_cons] at hl
    have st := oddB_ok k S x e0 e5 found μ hS (hT x List.mem_cons_self) (by omega)
    cases hc : oddT S x with
    | true =>
      rw [hc] at st
      obtain ⟨a3, a4, a5, ih⟩ := oddL_loop k S e0 μ hS T (found ++ [pl x.1]) (.val (pl x.1)) (.val (sgD x.2)) (.val (oS (look S x.1))) (fun y hy => hT y (List.mem_cons_of_mem _ hy)) (by simp only [List.length_append, List.length_singleton]; omega)
      refine ⟨a3, a4, a5, ?_⟩
      rw [List.filter_cons_of_pos hc]
      have d : enD x = .tup [pl x.1, sgD x.2] := rfl
      simp only [if_true] at st
      simp [loop, Tg.bind, Tg.binds, d, st]
      simpa using ih
    | false =>
      rw [hc] at st
      obtain ⟨a3, a4, a5, ih⟩ := oddL_loop k S e0 μ hS T found (.val (pl x.1)) (.val (sgD x.2)) (.val (oS (look S x.1))) (fun y hy => hT y (List.mem_cons_of_mem _ hy)) (by omega)
      refine ⟨a3, a4, a5, ?_⟩
      rw [List.filter_cons_of_neg (by simp [hc])]
      have d : enD x = .tup [pl x.1, sgD x.2] := rfl
      simp only [Bool.false_eq_true, if_false] at st
      simp [loop, Tg.bind, Tg.binds, d, st]
      simpa using ih
end Kx

set_option linter.all false
set_option maxRecDepth 100000
set_option maxHeartbeats 4000000
namespace Kx
open PySem Q
def oddL (f g : Fm) : List (List Nat) := ((mp f).filter (oddT (mp g))).map (·.1)
theorem mem_oddL (f g : Fm) (l : List Nat) : l ∈ oddL f g ↔ OddAt f g l := by
  unfold oddL
  rw [List.mem_map]
  constructor
  · rintro ⟨x, hx, rfl⟩
    obtain ⟨h1, h2⟩ := List.mem_filter.mp hx
    have q := (mem_mp f x.1 x.2).mp h1
    unfold oddT at h2
    rw [look_mp] at h2
    cases ht : (pt x.1 g).bind sgo with
    | none => rw [ht] at h2; cases h2
    | some t =>
      rw [ht] at h2
      exact ⟨x.2, t, q, ht, fun z => by simp [z] at h2⟩
  · rintro ⟨s, t, h1, h2, ne⟩
    refine ⟨(l, s), List.mem_filter.mpr ⟨(mem_mp f l s).mpr h1, ?_⟩, rfl⟩
    unfold oddT
    rw [look_mp]
    show (match (pt l g).bind sgo with | some t => !decide (t = s) | none => false) = true
    rw [h2]
    simp only [Bool.not_eq_true', decide_eq_false_iff_not]
    exact fun z => ne z.symm
theorem oddL_head (f g : Fm) : match odd f g with
    | none => oddL f g = []
    | some l => (isort ((oddL f g).map pl))[0]? = some (pl l) ∧ oddL f g ≠ [] := by
  cases h : odd f g with
  | none =>
    cases e : oddL f g with
    | nil => rfl
    | cons l r => exact absurd ((mem_oddL f g l).mp (by rw [e]; exact List.mem_cons_self)) (odd_no l f g h)
  | some l =>
    obtain ⟨h1, h2⟩ := odd_yes l f g h
    have m := (mem_oddL f g l).mpr h1
    refine ⟨isort_head (okay_pl _) (List.mem_map.mpr ⟨l, m, rfl⟩) fun y hy => ?_, fun z => by rw [z] at m; cases m⟩
    obtain ⟨k, hk, rfl⟩ := List.mem_map.mp hy
    rw [pl_lt]
    exact h2 k ((mem_oddL f g k).mp hk)
end Kx

set_option linter.all false
set_option maxRecDepth 100000
set_option maxHeartbeats 4000000
namespace Kx
open PySem Q
theorem mp_len (f : Fm) : (mp f).length ≤ f.sz := by
  unfold mp
  exact Nat.le_trans (List.length_filterMap_le _ _) (Nat.le_of_eq (spots_len f))
theorem odd27_ok (k : Nat) (f g : Fm) (μ : Mu) (hf : f.ok = true) (hg : g.ok = true) (hs : f.sz ≤ 1000000) : run (k+2) 27 [.lst ((mp f).map enD), .lst ((mp g).map enD)] μ = .ok (.val (oP (odd f g))) μ := by
  have e : run (k+2) 27 = runOf 6 (b27 (run (k+1))) := rfl
  rw [e]
  obtain ⟨a3, a4, a5, L⟩ := oddL_loop k (mp g) (.val (.lst ((mp f).map enD))) μ (okT_mp g hg) (mp f) [] .un .un .un (okT_mp f hf) (by have := mp_len f; simp only [List.length_nil]; omega)
  have hm : ((mp f).filter (oddT (mp g))).map (fun x => pl x.1) = (oddL f g).map pl := by simp [oddL, List.map_map]
  rw [List.nil_append, hm] at L
  have E1 : fSet 2 (fMo (fLst fNil)) [.val (.lst ((mp f).map enD)), .val (.lst ((mp g).map enD)), .un, .un, .un, .un] μ = .nxt [.val (.lst ((mp f).map enD)), .val (.lst ((mp g).map enD)), .own [], .un, .un, .un] μ := by
    simp [fSet, fMo, fLst, fNil, Res.bind, Res.to]
  have E2 := fFor_nxt (fi := fAny (fVar 0)) (t := .tp [(.nm 3), (.nm 4)]) (env := [.val (.lst ((mp f).map enD)), .val (.lst ((mp g).map enD)), .own [], .un, .un, .un]) (μ := μ) (by simp [fAny, fVar]) L
  unfold runOf
  show (match b27 (run (k+1)) [.val (.lst ((mp f).map enD)), .val (.lst ((mp g).map enD)), .un, .un, .un, .un] μ with | .ret d μ => Res.ok d μ | .nxt _ μ => .ok (.val .non) μ | .exc e _ μ => .exc e μ | _ => .bad) = _
  unfold b27
  rw [fSeq_nxt E1, fSeq_nxt E2]
  have H := oddL_head f g
  have sl : (oddL f g).length ≤ 1000000 := by
    unfold oddL
    rw [List.length_map]
    exact Nat.le_trans (List.length_filter_le _ _) (Nat.le_trans (mp_len f) hs)
  cases h : odd f g with
  | none =>
    rw [h] at H
    rw [H]
    simp [fRet, fMv, fIf, fTB, fB, fVar, fC, fLst, fNil, gNe, rd, Res.bind, Res.to, D.scal2, D.plain, D.plains, D.dep, D.deps, D.eq, D.eqs, oP]
  | some l =>
    rw [h] at H
    obtain ⟨H1, H2⟩ := H
    have ne : D.eqs ((oddL f g).map pl) [] = false := by
      rw [eqs_nil]
      cases e : oddL f g with
      | nil => exact absurd e H2
      | cons _ _ => rfl
    have z : (isort ((oddL f g).map pl)).length = (oddL f g).length := by rw [(isort_perm _).length_eq, List.length_map]
    have p0 : 0 < (oddL f g).length := List.length_pos_iff.mpr H2
    have p1 : ((0 : Int) < ((oddL f g).length : Int)) := by omega
    have p2 : (oddL f g).length ≤ 16777216 := by omega
    simp [fRet, fMv, fIf, fTB, fB, fVar, fC, fLst, fNil, gNe, rd, Res.bind, Res.to, D.scal2, D.plain, D.plains, D.dep, D.deps, D.eq, ne, plains_pl, oP, fCall, fConsr, fNilr, gSorted, sq, sortable_pl, LIM, p2, gIx, SqD.items, L2.atI, L2.ixN, z, p0, p1, H1]
    have q := List.getElem?_eq_some_iff.mp H1
    exact q.2
end Kx

set_option linter.all false
set_option maxRecDepth 100000
set_option maxHeartbeats 4000000
namespace Kx
open PySem Q
local macro_rules | `(tactic| simp_arith [$as,*] $[$l]?) => `(tactic| simp [runOf, envOf, fSeq, fIfS, fTB, fB, gEq, gNe, gGt, gLt, gLe, gGe, gIB, fVar, fC, gIx, sq, Res.bind, Res.to, L2.atI, L2.ixN, fSet, fMv, fMo, fSetIx, fRet, gMod, gDiv, gI, gAdd, gMul, fCall, fConsr, fNilr, gInt, getL, putL, SqD.items, fOr, fAnd, fOrV, fAndV, fNotV, fNot, fTT, tru, fFn, fCons, fNil, fNext, gLen, rd, fYes, wipeE, Tg.bind, Tg.binds, Res.nx, fZp, srcD, zipD, fSl, gSl, fSomeO, fNoO, fTup, fLst, fLc, List.replicate, D.scal2, D.eq, D.eqs, D.plain, D.plains, D.dep, D.deps, LIM, n1_ne, n1_beq, n1_bne, n1_pos, cut1, srcD_sq, fIf, gTuple, gList, fRaise, gIsN, gNotN, RV.isN, fIsi, isi, subTy, tyGo, tyName, fAny, $as,*] $[$l]?)
mutual
/-- data that the law compares -/
def nice : D → Bool
  | .non => true
  | .bl _ => true
  | .int _ => true
  | .str _ => true
  | .tup xs => nices xs
  | .lst xs => nices xs
  | _ => false
def nices : List D → Bool
  | [] => true
  | x :: xs => nice x && nices xs
end
theorem zip_self : ∀ ds : List D, zipD ds ds = ds.map fun d => .tup [d, d]
  | [] => rfl
  | d :: ds => by simp [zipD, zip_self ds]
theorem same_loop (r : RunF) (x y : EV) (μ : Mu) : ∀ (ds : List D) (acc : List D), (∀ d ∈ ds, r [d, d] μ = .ok (.val (.bl true)) μ) →
    lcLoop (.tp [.nm 2, .nm 3]) fYes (fFn 2 r (fCons (fVar 2) (fCons (fVar 3) fNil))) [x, y, .un, .un] (zipD ds ds) μ acc = .ok (acc ++ ds.map fun _ => .bl true) μ
  | [], acc, _ => by simp [zipD, lcLoop]
  | d :: ds, acc, h => by
    have h1 := h d List.mem_cons_self
    have ih := same_loop r x y μ ds (acc ++ [.bl true]) fun e he => h e (List.mem_cons_of_mem _ he)
    simp [zipD, lcLoop, Tg.bind, Tg.binds, fYes, fFn, fCons, fVar, fNil, Res.nx, Res.bind, h1]
    simpa [fFn] using ih
end Kx

set_option linter.all false
set_option maxRecDepth 100000
set_option maxHeartbeats 4000000
namespace Kx
open PySem Q
local macro_rules | `(tactic| simp_arith [$as,*] $[$l]?) => `(tactic| simp [runOf, envOf, fSeq, fIfS, fTB, fB, gEq, gNe, gGt, gLt, gLe, gGe, gIB, fVar, fC, gIx, sq, Res.bind, Res.to, L2.atI, L2.ixN, fSet, fMv, fMo, fSetIx, fRet, gMod, gDiv, gI, gAdd, gMul, fCall, fConsr, fNilr, gInt, getL, putL, SqD.items, fOr, fAnd, fOrV, fAndV, fNotV, fNot, fTT, tru, fFn, fCons, fNil, fNext, gLen, rd, fYes, wipeE, Tg.bind, Tg.binds, Res.nx, fZp, srcD, zipD, fSl, gSl, fSomeO, fNoO, fTup, fLst, fLc, List.replicate, D.scal2, D.eq, D.eqs, D.plain, D.plains, D.dep, D.deps, LIM, n1_ne, n1_beq, n1_bne, n1_pos, cut1, srcD_sq, fIf, gTuple, gList, fRaise, gIsN, gNotN, RV.isN, fIsi, isi, subTy, tyGo, tyName, fAny, $as,*] $[$l]?)
theorem bls_true : ∀ ds : List D, bls (ds.map fun _ => D.bl true) = some (ds.map fun _ => true)
  | [] => rfl
  | d :: ds => by simp [bls, bls_true ds]
theorem nices_mem : ∀ {ds : List D} {d : D}, nices ds = true → d ∈ ds → nice d = true
  | x :: ds, d, h, m => by
    simp only [nices, Bool.and_eq_true] at h
    rcases List.mem_cons.mp m with e | m
    · rw [e]; exact h.1
    · exact nices_mem h.2 m
theorem ddeps_mem : ∀ {ds : List D} {d : D}, d ∈ ds → D.dep d ≤ D.deps ds
  | x :: ds, d, m => by
    simp only [D.deps]
    rcases List.mem_cons.mp m with e | m
    · rw [e]; omega
    · have := ddeps_mem m; omega
mutual
def wide : D → Bool
  | .tup xs => decide (xs.length ≤ 16777216) && wides xs
  | .lst xs => decide (xs.length ≤ 16777216) && wides xs
  | _ => true
def wides : List D → Bool
  | [] => true
  | x :: xs => wide x && wides xs
end
theorem wides_mem : ∀ {ds : List D} {d : D}, wides ds = true → d ∈ ds → wide d = true
  | x :: ds, d, h, m => by
    simp only [wides, Bool.and_eq_true] at h
    rcases List.mem_cons.mp m with e | m
    · rw [e]; exact h.1
    · exact wides_mem h.2 m
theorem same_ok : ∀ (k : Nat) (d : D) (μ : Mu), D.dep d + 1 ≤ k → nice d = true → wide d = true → run k 17 [d, d] μ = .ok (.val (.bl true)) μ
  | 0, _, _, h, _, _ => by omega
  | k + 1, d, μ, hk, hn, hw => by
    have e : run (k+1) 17 = runOf 4 (b17 (run k)) := rfl
    rw [e]
    cases d with
    | non => simp_arith [b17]
    | bl b => cases b <;> simp_arith [b17]
    | int i => simp_arith [b17]
    | str x => simp_arith [b17]
    | frz _ => simp [nice] at hn
    | loc _ => simp [nice] at hn
    | ty _ => simp [nice] at hn
    | tup ds =>
      simp only [nice] at hn
      simp only [D.dep] at hk
      simp only [wide, Bool.and_eq_true, decide_eq_true_eq] at hw
      have L := same_loop (run k 17) (.val (.tup ds)) (.val (.tup ds)) μ ds [] fun e he => same_ok k e μ (by have := ddeps_mem he; omega) (nices_mem hn he) (wides_mem hw.2 he)
      have z : (zipD ds ds).length ≤ 16777216 := by rw [zipD_len]; omega
      have q := bls_true ds
      simp_arith [] at L
      simp_arith [b17, L, z, gAll, gBls, q]
    | lst ds =>
      simp only [nice] at hn
      simp only [D.dep] at hk
      simp only [wide, Bool.and_eq_true, decide_eq_true_eq] at hw
      have L := same_loop (run k 17) (.val (.lst ds)) (.val (.lst ds)) μ ds [] fun e he => same_ok k e μ (by have := ddeps_mem he; omega) (nices_mem hn he) (wides_mem hw.2 he)
      have z : (zipD ds ds).length ≤ 16777216 := by rw [zipD_len]; omega
      have q := bls_true ds
      simp_arith [] at L
      simp_arith [b17, L, z, gAll, gBls, q]
end Kx

set_option linter.all false
set_option maxRecDepth 100000
set_option maxHeartbeats 4000000
namespace Kx
open PySem Q
/-! joins and meets: plain laws -/
theorem unl_symm (s t : Str) (n m : Nat) : unl s n t m = unl t m s n := by
  unfold unl
  rw [decide_eq_decide.mpr (ne_comm (a := n) (b := m)), decide_eq_decide.mpr (ne_comm (a := s) (b := t))]
theorem agr_op1 (g : Fm) : agr .op g = true := by cases g <;> rfl
theorem unl_self (s : Str) (n : Nat) : unl s n s n = false := by simp [unl]
mutual
theorem agr_odd : ∀ f g : Fm, agr f g = (odd f g).isNone
  | .op, _ => by simp [agr, odd]
  | .nd _ _, .op => by simp [agr, odd]
  | .nd s ps, .nd t qs => by
    simp only [agr, odd]
    split
    · rfl
    · exact agrA_odd 0 ps qs
theorem agrA_odd : ∀ (n : Nat) (ps qs : List Fm), agrA ps qs = (oddA n ps qs).isNone
  | n, [], _ => by simp [agrA, oddA]
  | n, _ :: _, [] => by simp [agrA, oddA]
  | n, p :: ps, q :: qs => by
    simp only [agrA, oddA, agr_odd p q, agrA_odd (n+1) ps qs]
    cases odd p q <;> simp
end
mutual
theorem odd_symm : ∀ f g : Fm, odd f g = odd g f
  | .op, .op => rfl
  | .op, .nd _ _ => by simp [odd]
  | .nd _ _, .op => by simp [odd]
  | .nd s ps, .nd t qs => by
    simp only [odd]
    rw [unl_symm s t, oddA_symm 0 ps qs]
theorem oddA_symm : ∀ (n : Nat) (ps qs : List Fm), oddA n ps qs = oddA n qs ps
  | n, [], [] => rfl
  | n, [], _ :: _ => by simp [oddA]
  | n, _ :: _, [] => by simp [oddA]
  | n, p :: ps, q :: qs => by simp only [oddA, odd_symm p q, oddA_symm (n+1) ps qs]
end
theorem agr_symm (f g : Fm) : agr f g = agr g f := by rw [agr_odd, agr_odd, odd_symm]
theorem agr_nd {s t : Str} {ps qs : List Fm} (h : agr (.nd s ps) (.nd t qs) = true) : s = t ∧ ps.length = qs.length ∧ agrA ps qs = true := by
  simp only [agr] at h
  cases hu : unl s ps.length t qs.length with
  | true => rw [hu] at h; simp at h
  | false =>
    rw [hu] at h
    have := unl_no hu
    exact ⟨this.1, this.2, by simpa using h⟩
theorem agrA_cons {p q : Fm} {ps qs : List Fm} (h : agrA (p :: ps) (q :: qs) = true) : agr p q = true ∧ agrA ps qs = true := by
  simpa [agrA] using h
mutual
theorem joi_comm : ∀ f g : Fm, agr f g = true → joi f g = joi g f
  | .op, .op, _ => rfl
  | .op, .nd _ _, _ => by simp [joi]
  | .nd _ _, .op, _ => by simp [joi]
  | .nd s ps, .nd t qs, h => by
    obtain ⟨e, _, h⟩ := agr_nd h
    simp only [joi, e, joiA_comm ps qs h]
theorem joiA_comm : ∀ ps qs : List Fm, agrA ps qs = true → joiA ps qs = joiA qs ps
  | [], [], _ => rfl
  | [], _ :: _, _ => by simp [joiA]
  | _ :: _, [], _ => by simp [joiA]
  | p :: ps, q :: qs, h => by
    have := agrA_cons h
    simp only [joiA, joi_comm p q this.1, joiA_comm ps qs this.2]
end
mutual
theorem mee_comm : ∀ f g : Fm, mee f g = mee g f
  | .op, .op => rfl
  | .op, .nd _ _ => by simp [mee]
  | .nd _ _, .op => by simp [mee]
  | .nd s ps, .nd t qs => by
    simp only [mee]
    rw [unl_symm t s]
    cases hu : unl s ps.length t qs.length with
    | true => rfl
    | false =>
      have := unl_no hu
      simp only [this.1, meeA_comm ps qs]
theorem meeA_comm : ∀ ps qs : List Fm, meeA ps qs = meeA qs ps
  | [], [] => rfl
  | [], _ :: _ => by simp [meeA]
  | _ :: _, [] => by simp [meeA]
  | p :: ps, q :: qs => by simp only [meeA, mee_comm p q, meeA_comm ps qs]
end
mutual
theorem lies_refl : ∀ f : Fm, lies f f = true
  | .op => by simp [lies]
  | .nd s ps => by simp only [lies, unl_self, Bool.false_eq_true, if_false]; exact liesA_refl ps
theorem liesA_refl : ∀ ps : List Fm, liesA ps ps = true
  | [] => by simp [liesA]
  | p :: ps => by simp [liesA, lies_refl p, liesA_refl ps]
end
theorem joiA_len (ps qs : List Fm) : (joiA ps qs).length = min ps.length qs.length := A_len joi joiA joiA0 (fun _ _ _ _ => by simp [joiA]) ps qs
theorem meeA_len (ps qs : List Fm) : (meeA ps qs).length = min ps.length qs.length := A_len mee meeA meeA0 (fun _ _ _ _ => by simp [meeA]) ps qs
mutual
theorem lies_joi : ∀ f g : Fm, agr f g = true → lies f (joi f g) = true
  | .op, g, _ => by simp [lies]
  | .nd s ps, .op, _ => by simp only [joi]; exact lies_refl _
  | .nd s ps, .nd t qs, h => by
    obtain ⟨e, l, h⟩ := agr_nd h
    have u : unl s ps.length s (joiA ps qs).length = false := by
      rw [joiA_len, ← l, Nat.min_self, unl_self]
    simp only [joi, lies, u, Bool.false_eq_true, if_false]
    exact liesA_joi ps qs h
theorem liesA_joi : ∀ ps qs : List Fm, agrA ps qs = true → liesA ps (joiA ps qs) = true
  | [], _, _ => by simp [liesA]
  | _ :: _, [], _ => by simp [joiA, liesA]
  | p :: ps, q :: qs, h => by
    have := agrA_cons h
    simp [joiA, liesA, lies_joi p q this.1, liesA_joi ps qs this.2]
end
theorem lies_joi2 (f g : Fm) (h : agr f g = true) : lies g (joi f g) = true := by
  rw [joi_comm f g h]
  exact lies_joi g f (by rw [agr_symm]; exact h)
mutual
theorem lies_mee : ∀ f g : Fm, lies (mee f g) f = true
  | .op, g => by simp [mee, lies]
  | .nd s ps, .op => by simp [mee, lies]
  | .nd s ps, .nd t qs => by
    simp only [mee]
    cases hu : unl s ps.length t qs.length with
    | true => simp [lies]
    | false =>
      have l := (unl_no hu).2
      have u : unl s (meeA ps qs).length s ps.length = false := by
        rw [meeA_len, ← l, Nat.min_self, unl_self]
      simp only [Bool.false_eq_true, if_false, lies, u]
      exact liesA_mee ps qs
theorem liesA_mee : ∀ ps qs : List Fm, liesA (meeA ps qs) ps = true
  | [], _ => by simp [meeA, liesA]
  | _ :: _, [] => by simp [meeA, liesA]
  | p :: ps, q :: qs => by simp [meeA, liesA, lies_mee p q, liesA_mee ps qs]
end
theorem lies_mee2 (f g : Fm) : lies (mee f g) g = true := by
  rw [mee_comm f g]; exact lies_mee g f
theorem lies_nd {s t : Str} {ps qs : List Fm} (h : lies (.nd s ps) (.nd t qs) = true) : s = t ∧ ps.length = qs.length ∧ liesA ps qs = true := by
  simp only [lies] at h
  cases hu : unl s ps.length t qs.length with
  | true => rw [hu] at h; simp at h
  | false =>
    rw [hu] at h
    have := unl_no hu
    exact ⟨this.1, this.2, by simpa using h⟩
mutual
theorem lies_joi_eq : ∀ f g : Fm, lies f g = true → joi f g = g
  | .op, g, _ => by simp [joi]
  | .nd s ps, .op, h => by simp [lies] at h
  | .nd s ps, .nd t qs, h => by
    obtain ⟨e, l, h⟩ := lies_nd h
    simp only [joi, e, liesA_joi_eq ps qs l h]
theorem liesA_joi_eq : ∀ ps qs : List Fm, ps.length = qs.length → liesA ps qs = true → joiA ps qs = qs
  | [], [], _, _ => rfl
  | [], _ :: _, l, _ => by simp at l
  | _ :: _, [], l, _ => by simp at l
  | p :: ps, q :: qs, l, h => by
    have h : lies p q = true ∧ liesA ps qs = true := by simpa [liesA] using h
    simp only [joiA, lies_joi_eq p q h.1, liesA_joi_eq ps qs (by simpa using l) h.2]
end
mutual
theorem lies_mee_eq : ∀ f g : Fm, lies f g = true → mee f g = f
  | .op, g, _ => by simp [mee]
  | .nd s ps, .op, h => by simp [lies] at h
  | .nd s ps, .nd t qs, h => by
    obtain ⟨e, l, h⟩ := lies_nd h
    have u : unl s ps.length t qs.length = false := by rw [e, l, unl_self]
    simp only [mee, u, Bool.false_eq_true, if_false, liesA_mee_eq ps qs l h]
theorem liesA_mee_eq : ∀ ps qs : List Fm, ps.length = qs.length → liesA ps qs = true → meeA ps qs = ps
  | [], [], _, _ => rfl
  | [], _ :: _, l, _ => by simp at l
  | _ :: _, [], l, _ => by simp at l
  | p :: ps, q :: qs, l, h => by
    have h : lies p q = true ∧ liesA ps qs = true := by simpa [liesA] using h
    simp only [meeA, lies_mee_eq p q h.1, liesA_mee_eq ps qs (by simpa using l) h.2]
end
mutual
theorem d_eq : ∀ f g : Fm, D.eq (f.d false) (g.d false) = true ↔ f = g
  | .op, .op => by simp [Fm.d, sqd, D.eq, D.eqs]
  | .op, .nd _ _ => by simp [Fm.d, sqd, D.eq, D.eqs]
  | .nd _ _, .op => by simp [Fm.d, sqd, D.eq, D.eqs]
  | .nd s ps, .nd t qs => by
    have h := ds_eq ps qs
    simp [Fm.d, sqd, D.eq, D.eqs, h]
theorem ds_eq : ∀ ps qs : List Fm, D.eqs (Fm.ds false ps) (Fm.ds false qs) = true ↔ ps = qs
  | [], [] => by simp [Fm.ds, D.eqs]
  | [], _ :: _ => by simp [Fm.ds, D.eqs]
  | _ :: _, [] => by simp [Fm.ds, D.eqs]
  | p :: ps, q :: qs => by
    have h1 := d_eq p q
    have h2 := ds_eq ps qs
    simp [Fm.ds, D.eqs, h1, h2]
end
theorem joi_eq2 (f g : Fm) (h : agr f g = true) : D.eq ((joi f g).d false) (g.d false) = lies f g := by
  cases hl : lies f g with
  | true => exact (d_eq _ _).mpr (lies_joi_eq f g hl)
  | false =>
    cases hd : D.eq ((joi f g).d false) (g.d false) with
    | false => rfl
    | true =>
      have e := (d_eq _ _).mp hd
      have := lies_joi f g h
      rw [e, hl] at this
      cases this
theorem joi_eq1 (f g : Fm) (h : agr f g = true) : D.eq ((joi f g).d false) (f.d false) = lies g f := by
  rw [joi_comm f g h]
  exact joi_eq2 g f (by rw [agr_symm]; exact h)
theorem mee_eq1 (f g : Fm) : D.eq ((mee f g).d false) (f.d false) = lies f g := by
  cases hl : lies f g with
  | true => exact (d_eq _ _).mpr (lies_mee_eq f g hl)
  | false =>
    cases hd : D.eq ((mee f g).d false) (f.d false) with
    | false => rfl
    | true =>
      have e := (d_eq _ _).mp hd
      have := lies_mee2 f g
      rw [e, hl] at this
      cases this
theorem mee_eq2 (f g : Fm) : D.eq ((mee f g).d false) (g.d false) = lies g f := by
  rw [mee_comm f g]; exact mee_eq1 g f
/-! three -/
mutual
theorem agr_joi : ∀ f g h : Fm, agr f g = true → agr (joi f g) h = (agr f h && agr g h)
  | .op, g, h, _ => by rw [agr_op1, Bool.true_and]; rfl
  | .nd s ps, .op, h, _ => by rw [agr_op1, Bool.and_true]; rfl
  | .nd s ps, .nd t qs, .op, _ => by simp [joi, agr]
  | .nd s ps, .nd t qs, .nd u rs, a => by
    obtain ⟨e, l, a2⟩ := agr_nd a
    subst e
    have ll : (joiA ps qs).length = ps.length := by rw [joiA_len, ← l, Nat.min_self]
    simp only [joi, agr, ll, ← l]
    cases unl s ps.length u rs.length with
    | true => rfl
    | false => simp only [Bool.false_eq_true, if_false]; exact agrA_joi ps qs rs l a2
theorem agrA_joi : ∀ ps qs rs : List Fm, ps.length = qs.length → agrA ps qs = true → agrA (joiA ps qs) rs = (agrA ps rs && agrA qs rs)
  | [], [], rs, _, _ => by simp [joiA, agrA]
  | [], _ :: _, _, l, _ => by simp at l
  | _ :: _, [], _, l, _ => by simp at l
  | p :: ps, q :: qs, [], _, _ => by simp [joiA, agrA]
  | p :: ps, q :: qs, r :: rs, l, a => by
    have a := agrA_cons a
    simp only [joiA, agrA, agr_joi p q r a.1, agrA_joi ps qs rs (by simpa using l) a.2]
    cases agr p r <;> cases agr q r <;> cases agrA ps rs <;> cases agrA qs rs <;> rfl
end
/-- the sign of a join -/
theorem joi_sg (f g : Fm) (a : agr f g = true) (l : List Nat) : (pt l (joi f g)).bind sgo = match (pt l f).bind sgo with | some s => some s | none => (pt l g).bind sgo := by
  cases hp : pt l (joi f g) with
  | some h =>
    exact (joi_pt l f g h a hp).symm
  | none =>
    rw [Option.bind_none]
    cases h1 : (pt l f).bind sgo with
    | some s =>
      have := lies_to l f _ s (lies_joi f g a) h1
      rw [hp] at this; simp at this
    | none =>
      cases h2 : (pt l g).bind sgo with
      | some s =>
        have := lies_to l g _ s (lies_joi2 f g a) h2
        rw [hp] at this; simp at this
      | none => rfl
theorem joi_tab3 (f g h : Fm) (a : agr f g = true) (a2 : agr (joi f g) h = true) (m : List Nat) (e : Fm) (hp : pt m (joi (joi f g) h) = some e) : look ((mp f ++ mp g) ++ mp h) m = sgo e := by
  have := joi_pt m (joi f g) h e a2 hp
  rw [joi_sg f g a] at this
  rw [look_app, look_app, look_mp, look_mp, look_mp]
  exact this
end Kx

set_option Elab.async false
set_option linter.all false
set_option maxRecDepth 100000
set_option maxHeartbeats 4000000
/-! GA: the laws' source of draws, whatever the law. -/
namespace Gn
open PySem Q
def bTake : FS := (fSeq (fIfS (fTB (fB gGt (fB gIx (fVar 0) (fC (.int 0))) (fC (.int 0)))) (fSeq (fSet 2 (fMv (fB gMod (fCall gInt (fConsr (fB gIx (fVar 0) (fC (.int 0))) fNilr)) (fVar 1))))
    (fSeq (fSetIx 0 (fB gDiv (fB gIx (fVar 0) (fC (.int 0))) (fVar 1)) (fC (.int 0)))
    (fRet (fMv (fVar 2))))) fNext)
    (fSeq (fSetIx 0 (fB gAdd (fB gIx (fVar 0) (fC (.int 2))) (fC (.int 1))) (fC (.int 2)))
    (fSeq (fSet 3 (fMv (fB gMod (fCall gInt (fConsr (fB gMul (fB gAdd (fB gIx (fVar 0) (fC (.int 1))) (fB gMul (fC (.int 48271)) (fB gIx (fVar 0) (fC (.int 2))))) (fB gAdd (fC (.int 39373)) (fB gIx (fVar 0) (fC (.int 2))))) fNilr)) (fC (.int 2147483647)))))
    (fSeq (fSet 4 (fMv (fB gAdd (fB gMod (fCall gInt (fConsr (fVar 3) fNilr)) (fC (.int 40009))) (fC (.int 7)))))
    (fSeq (fSet 5 (fMv (fB gMod (fCall gInt (fConsr (fB gMul (fB gAdd (fB gAdd (fVar 3) (fB gIx (fVar 0) (fC (.int 2)))) (fB gDiv (fB gIx (fVar 0) (fC (.int 1))) (fC (.int 1000003)))) (fVar 4)) fNilr)) (fC (.int 2147483629)))))
    (fRet (fMv (fB gMod (fCall gInt (fConsr (fB gDiv (fB gMod (fCall gInt (fConsr (fB gAdd (fB gMul (fVar 5) (fC (.int 48271))) (fVar 3)) fNilr)) (fC (.int 2147483587))) (fC (.int 64))) fNilr)) (fVar 1)))))))))
def boxD (a b c : Int) : List D := [.int a, .int b, .int c]
/-- the store is a box of draws, its counter at most N -/
def Bx (N : Nat) (μ : Mu) : Prop := ∃ a b c : Int, μ = [boxD a b c] ∧ 0 ≤ a ∧ 0 ≤ c ∧ c ≤ (N : Int)
theorem Bx.up {N M : Nat} {μ : Mu} (h : Bx N μ) (hm : N ≤ M) : Bx M μ := by
  obtain ⟨a, b, c, h1, h2, h3, h4⟩ := h
  exact ⟨a, b, c, h1, h2, h3, by omega⟩
theorem fSeq_nxt {f g : FS} {env env' : En} {μ μ' : Mu} (h : f env μ = .nxt env' μ') : fSeq f g env μ = g env' μ' := by
  unfold fSeq; rw [h]
theorem fSeq_ret {f g : FS} {env : En} {μ μ' : Mu} {v : EV} (h : f env μ = .ret v μ') : fSeq f g env μ = .ret v μ' := by
  unfold fSeq; rw [h]
theorem loop_nxt {t : Tg} {b : FS} {d : D} {ds : List D} {env env1 env2 : En} {μ μ1 : Mu} (hb : t.bind d env = some env1) (h : b env1 μ = .nxt env2 μ1) : loop t b (d :: ds) env μ = loop t b ds env2 μ1 := by
  simp only [loop, hb, h]
theorem loop_ret {t : Tg} {b : FS} {d : D} {ds : List D} {env env1 : En} {μ μ1 : Mu} {v : EV} (hb : t.bind d env = some env1) (h : b env1 μ = .ret v μ1) : loop t b (d :: ds) env μ = .ret v μ1 := by
  simp only [loop, hb, h]
theorem fFor_nxt {fi : FI} {t : Tg} {fb : FS} {env : En} {μ μ1 : Mu} {ds : List D} {r : SRes} (h : fi env μ = .ok ds μ1) (hl : loop t fb ds env μ1 = r) : fFor fi t fb env μ = r := by
  unfold fFor
  rw [h]
  exact hl
theorem runOf_ret {n : Nat} {b : FS} {ds : List D} {μ μ' : Mu} {v : EV} (env : En) (he : envOf n ds = env) (h : b env μ = .ret v μ') : runOf n b ds μ = .ok v μ' := by
  unfold runOf
  rw [he, h]
theorem mulOk_r {i j : Int} (h1 : 0 ≤ j) (h2 : j ≤ 1000000000000000) : mulOk i j = true := by
  have e : (2 : Int) ^ 64 = 18446744073709551616 := by decide
  simp only [mulOk, Bool.or_eq_true, Bool.and_eq_true, decide_eq_true_eq, e]
  right; omega
theorem mulOk_l {i j : Int} (h1 : 0 ≤ i) (h2 : i ≤ 1000000000000000) : mulOk i j = true := by
  have e : (2 : Int) ^ 64 = 18446744073709551616 := by decide
  simp only [mulOk, Bool.or_eq_true, Bool.and_eq_true, decide_eq_true_eq, e]
  left; omega
theorem ix0 (a b c : Int) (env : En) (x : RV) (hx : x = .val (.loc 0)) : gIx env x (.val (.int 0)) [boxD a b c] = .ok (.val (.int a)) [boxD a b c] := by
  subst hx; simp [gIx, sq, SqD.items, boxD, L2.atI, L2.ixN]
theorem ix1 (a b c : Int) (env : En) : gIx env (.val (.loc 0)) (.val (.int 1)) [boxD a b c] = .ok (.val (.int b)) [boxD a b c] := by
  simp [gIx, sq, SqD.items, boxD, L2.atI, L2.ixN]
theorem ix2 (a b c : Int) (env : En) : gIx env (.val (.loc 0)) (.val (.int 2)) [boxD a b c] = .ok (.val (.int c)) [boxD a b c] := by
  simp [gIx, sq, SqD.items, boxD, L2.atI, L2.ixN]
theorem fMulE {fa fb : FE} {env : En} {μ : Mu} {x y : Int} (h1 : fa env μ = .ok (.val (.int x)) μ) (h2 : fb env μ = .ok (.val (.int y)) μ) (h : mulOk x y = true) : fB gMul fa fb env μ = .ok (.val (.int (x * y))) μ := by
  simp only [fB, h1, h2, Res.bind, gMul, gI, h, if_true]
theorem fAddE {fa fb : FE} {env : En} {μ : Mu} {x y : Int} (h1 : fa env μ = .ok (.val (.int x)) μ) (h2 : fb env μ = .ok (.val (.int y)) μ) : fB gAdd fa fb env μ = .ok (.val (.int (x + y))) μ := by
  simp only [fB, h1, h2, Res.bind, gAdd]
theorem fModE {fa fb : FE} {env : En} {μ : Mu} {x y : Int} (h1 : fa env μ = .ok (.val (.int x)) μ) (h2 : fb env μ = .ok (.val (.int y)) μ) (h : 0 < y) : fB gMod fa fb env μ = .ok (.val (.int (x % y))) μ := by
  simp only [fB, h1, h2, Res.bind, gMod, gI, h, decide_true, if_true]
theorem fDivE {fa fb : FE} {env : En} {μ : Mu} {x y : Int} (h1 : fa env μ = .ok (.val (.int x)) μ) (h2 : fb env μ = .ok (.val (.int y)) μ) (h : 0 < y) (h' : y < 1073741824) : fB gDiv fa fb env μ = .ok (.val (.int (x / y))) μ := by
  simp only [fB, h1, h2, Res.bind, gDiv, gI, divOk, h, h', decide_true, Bool.and_self, if_true]
theorem fIntE {fa : FE} {env : En} {μ : Mu} {x : Int} (h1 : fa env μ = .ok (.val (.int x)) μ) : fCall gInt (fConsr fa fNilr) env μ = .ok (.val (.int x)) μ := by
  simp only [fCall, fConsr, fNilr, h1, Res.bind, gInt]
theorem fGtT {fa fb : FE} {env : En} {μ : Mu} {x y : Int} (h1 : fa env μ = .ok (.val (.int x)) μ) (h2 : fb env μ = .ok (.val (.int y)) μ) : fTB (fB gGt fa fb) env μ = .ok (decide (y < x)) μ := by
  simp only [fTB, fB, h1, h2, Res.bind, gGt, gIB]
theorem fGeE {fa fb : FE} {env : En} {μ : Mu} {x y : Int} (h1 : fa env μ = .ok (.val (.int x)) μ) (h2 : fb env μ = .ok (.val (.int y)) μ) : fB gGe fa fb env μ = .ok (.val (.bl (decide (y ≤ x)))) μ := by
  simp only [fB, h1, h2, Res.bind, gGe, gIB]
theorem fIntB {fa : FE} {env : En} {μ : Mu} {b : Bool} (h1 : fa env μ = .ok (.val (.bl b)) μ) : fCall gInt (fConsr fa fNilr) env μ = .ok (.val (.int (if b then 1 else 0))) μ := by
  cases b <;> simp [fCall, fConsr, fNilr, h1, Res.bind, gInt]
theorem fSetE {i : Nat} {fa : FE} {env : En} {μ μ1 : Mu} {d : D} (h1 : fa env μ = .ok (.val d) μ1) : fSet i (fMv fa) env μ = .nxt (env.set i (.val d)) μ1 := by
  simp only [fSet, fMv, h1, Res.bind, Res.to]
theorem fRetE {fa : FE} {env : En} {μ μ1 : Mu} {d : D} (h1 : fa env μ = .ok (.val d) μ1) : fRet (fMv fa) env μ = .ret (.val d) μ1 := by
  simp only [fRet, fMv, h1, Res.bind, Res.to]
theorem take_ok (n : Int) (h0 : 0 < n) (h1 : n < 1073741824) (N : Nat) (hN : N ≤ 1000000000000) (μ : Mu) (h : Bx N μ) : ∃ (r : Nat) (μ' : Mu), runOf 6 bTake [.loc 0, .int n] μ = .ok (.val (.int (r : Int))) μ' ∧ (r : Int) < n ∧ Bx (N+1) μ' := by
  obtain ⟨a, b, c, rfl, ha, hc, hc2⟩ := h
  have v0 : ∀ (e2 e3 e4 e5 : EV) (μ : Mu), fVar 0 [.val (.loc 0), .val (.int n), e2, e3, e4, e5] μ = .ok (.val (.loc 0)) μ := fun _ _ _ _ _ => rfl
  have v1 : ∀ (e2 e3 e4 e5 : EV) (μ : Mu), fVar 1 [.val (.loc 0), .val (.int n), e2, e3, e4, e5] μ = .ok (.val (.int n)) μ := fun _ _ _ _ _ => rfl
  have x0 : ∀ (e2 e3 e4 e5 : EV) (a b c : Int), fB gIx (fVar 0) (fC (.int 0)) [.val (.loc 0), .val (.int n), e2, e3, e4, e5] [boxD a b c] = .ok (.val (.int a)) [boxD a b c] := fun _ _ _ _ a b c => by
    simp only [fB, v0, fC, Res.bind]; exact ix0 a b c _ _ rfl
  have x1 : ∀ (e2 e3 e4 e5 : EV) (a b c : Int), fB gIx (fVar 0) (fC (.int 1)) [.val (.loc 0), .val (.int n), e2, e3, e4, e5] [boxD a b c] = .ok (.val (.int b)) [boxD a b c] := fun _ _ _ _ a b c => by
    simp only [fB, v0, fC, Res.bind]; exact ix1 a b c _
  have x2 : ∀ (e2 e3 e4 e5 : EV) (a b c : Int), fB gIx (fVar 0) (fC (.int 2)) [.val (.loc 0), .val (.int n), e2, e3, e4, e5] [boxD a b c] = .ok (.val (.int c)) [boxD a b c] := fun _ _ _ _ a b c => by
    simp only [fB, v0, fC, Res.bind]; exact ix2 a b c _
  have cC : ∀ (i : Int) (env : En) (μ : Mu), fC (.int i) env μ = .ok (.val (.int i)) μ := fun _ _ _ => rfl
  by_cases hp : 0 < a
  · have E1 : fSet 2 (fMv (fB gMod (fCall gInt (fConsr (fB gIx (fVar 0) (fC (.int 0))) fNilr)) (fVar 1))) [.val (.loc 0), .val (.int n), .un, .un, .un, .un] [boxD a b c] = .nxt [.val (.loc 0), .val (.int n), .val (.int (a % n)), .un, .un, .un] [boxD a b c] :=
      fSetE (fModE (fIntE (x0 _ _ _ _ a b c)) (v1 _ _ _ _ _) h0)
    have E2 : fSetIx 0 (fB gDiv (fB gIx (fVar 0) (fC (.int 0))) (fVar 1)) (fC (.int 0)) [.val (.loc 0), .val (.int n), .val (.int (a % n)), .un, .un, .un] [boxD a b c] = .nxt [.val (.loc 0), .val (.int n), .val (.int (a % n)), .un, .un, .un] [boxD (a / n) b c] := by
      have q := fDivE (x0 (.val (.int (a % n))) .un .un .un a b c) (v1 _ _ _ _ _) h0 h1
      simp only [fSetIx, q, Res.to, fC]
      simp [getL, putL, boxD, L2.ixN]
    have E3 : fRet (fMv (fVar 2)) [.val (.loc 0), .val (.int n), .val (.int (a % n)), .un, .un, .un] [boxD (a / n) b c] = .ret (.val (.int (a % n))) [boxD (a / n) b c] := rfl
    have T : fIfS (fTB (fB gGt (fB gIx (fVar 0) (fC (.int 0))) (fC (.int 0)))) (fSeq (fSet 2 (fMv (fB gMod (fCall gInt (fConsr (fB gIx (fVar 0) (fC (.int 0))) fNilr)) (fVar 1)))) (fSeq (fSetIx 0 (fB gDiv (fB gIx (fVar 0) (fC (.int 0))) (fVar 1)) (fC (.int 0))) (fRet (fMv (fVar 2))))) fNext [.val (.loc 0), .val (.int n), .un, .un, .un, .un] [boxD a b c] = .ret (.val (.int (a % n))) [boxD (a / n) b c] := by
      have t : fTB (fB gGt (fB gIx (fVar 0) (fC (.int 0))) (fC (.int 0))) [.val (.loc 0), .val (.int n), .un, .un, .un, .un] [boxD a b c] = .ok true [boxD a b c] := by
        rw [fGtT (x0 .un .un .un .un a b c) (cC 0 _ _), decide_eq_true hp]
      unfold fIfS
      rw [t]
      simp only [Res.to, if_true]
      rw [fSeq_nxt E1, fSeq_nxt E2, E3]
    refine ⟨(a % n).toNat, [boxD (a / n) b c], ?_, ?_, ⟨a / n, b, c, rfl, Int.ediv_nonneg ha (by omega), hc, by omega⟩⟩
    · rw [Int.toNat_of_nonneg (Int.emod_nonneg _ (by omega))]
      unfold runOf
      show (match bTake [.val (.loc 0), .val (.int n), .un, .un, .un, .un] [boxD a b c] with | .ret d μ => Res.ok d μ | .nxt _ μ => .ok (.val .non) μ | .exc e _ μ => .exc e μ | _ => .bad) = _
      unfold bTake
      rw [fSeq_ret T]
    · rw [Int.toNat_of_nonneg (Int.emod_nonneg _ (by omega))]
      exact Int.emod_lt_of_pos _ h0
  · have T : fIfS (fTB (fB gGt (fB gIx (fVar 0) (fC (.int 0))) (fC (.int 0)))) (fSeq (fSet 2 (fMv (fB gMod (fCall gInt (fConsr (fB gIx (fVar 0) (fC (.int 0))) fNilr)) (fVar 1)))) (fSeq (fSetIx 0 (fB gDiv (fB gIx (fVar 0) (fC (.int 0))) (fVar 1)) (fC (.int 0))) (fRet (fMv (fVar 2))))) fNext [.val (.loc 0), .val (.int n), .un, .un, .un, .un] [boxD a b c] = .nxt [.val (.loc 0), .val (.int n), .un, .un, .un, .un] [boxD a b c] := by
      have t : fTB (fB gGt (fB gIx (fVar 0) (fC (.int 0))) (fC (.int 0))) [.val (.loc 0), .val (.int n), .un, .un, .un, .un] [boxD a b c] = .ok false [boxD a b c] := by
        rw [fGtT (x0 .un .un .un .un a b c) (cC 0 _ _), decide_eq_false hp]
      unfold fIfS
      rw [t]
      rfl
    have E1 : fSetIx 0 (fB gAdd (fB gIx (fVar 0) (fC (.int 2))) (fC (.int 1))) (fC (.int 2)) [.val (.loc 0), .val (.int n), .un, .un, .un, .un] [boxD a b c] = .nxt [.val (.loc 0), .val (.int n), .un, .un, .un, .un] [boxD a b (c + 1)] := by
      have q := fAddE (x2 .un .un .un .un a b c) (cC 1 _ _)
      simp only [fSetIx, q, Res.to, fC]
      simp [getL, putL, boxD, L2.ixN]
    generalize hc' : c + 1 = d at E1
    have hd : 0 ≤ d ∧ d ≤ 1000000000001 := by omega
    have E2 := fSetE (i := 3) (fModE (fIntE (fMulE (fAddE (x1 .un .un .un .un a b d) (fMulE (cC 48271 _ _) (x2 .un .un .un .un a b d) (mulOk_l (by omega) (by omega)))) (fAddE (cC 39373 _ _) (x2 .un .un .un .un a b d)) (mulOk_r (by omega) (by omega)))) (cC 2147483647 _ _) (by omega))
    generalize ho : (b + 48271 * d) * (39373 + d) % 2147483647 = o at E2
    simp only [List.set_cons_succ, List.set_cons_zero] at E2
    have ho2 : 0 ≤ o ∧ o < 2147483647 := by rw [← ho]; omega
    have o3 : ∀ (e2 e4 e5 : EV) (μ : Mu), fVar 3 [.val (.loc 0), .val (.int n), e2, .val (.int o), e4, e5] μ = .ok (.val (.int o)) μ := fun _ _ _ _ => rfl
    have E3 := fSetE (i := 4) (fAddE (fModE (fIntE (o3 .un .un .un [boxD a b d])) (cC 40009 _ _) (by omega)) (cC 7 _ _))
    generalize hw : o % 40009 + 7 = w at E3
    simp only [List.set_cons_succ, List.set_cons_zero] at E3
    have hw2 : 0 ≤ w ∧ w ≤ 50000 := by rw [← hw]; omega
    have o4 : ∀ (e2 e5 : EV) (μ : Mu), fVar 4 [.val (.loc 0), .val (.int n), e2, .val (.int o), .val (.int w), e5] μ = .ok (.val (.int w)) μ := fun _ _ _ => rfl
    have E4 := fSetE (i := 5) (fModE (fIntE (fMulE (fAddE (fAddE (o3 .un (.val (.int w)) .un [boxD a b d]) (x2 .un (.val (.int o)) (.val (.int w)) .un a b d)) (fDivE (x1 .un (.val (.int o)) (.val (.int w)) .un a b d) (cC 1000003 _ _) (by omega) (by omega))) (o4 .un .un [boxD a b d]) (mulOk_r (by omega) (by omega)))) (cC 2147483629 _ _) (by omega))
    generalize ht : (o + d + b / 1000003) * w % 2147483629 = t at E4
    simp only [List.set_cons_succ, List.set_cons_zero] at E4
    have ht2 : 0 ≤ t ∧ t < 2147483629 := by rw [← ht]; omega
    have o5 : ∀ (e2 e4 : EV) (μ : Mu), fVar 5 [.val (.loc 0), .val (.int n), e2, .val (.int o), e4, .val (.int t)] μ = .ok (.val (.int t)) μ := fun _ _ _ => rfl
    have E5 := fRetE (fModE (fIntE (fDivE (fModE (fIntE (fAddE (fMulE (o5 .un (.val (.int w)) [boxD a b d]) (cC 48271 _ _) (mulOk_r (by omega) (by omega))) (o3 .un (.val (.int w)) (.val (.int t)) [boxD a b d]))) (cC 2147483587 _ _) (by omega)) (cC 64 _ _) (by omega) (by omega))) (v1 .un (.val (.int o)) (.val (.int w)) (.val (.int t)) [boxD a b d]) h0)
    generalize hr : (t * 48271 + o) % 2147483587 / 64 % n = r at E5
    have hr0 : 0 ≤ r := by rw [← hr]; exact Int.emod_nonneg _ (by omega)
    have hr1 : r < n := by rw [← hr]; exact Int.emod_lt_of_pos _ h0
    refine ⟨r.toNat, [boxD a b d], ?_, by omega, ⟨a, b, d, rfl, ha, by omega, by omega⟩⟩
    rw [Int.toNat_of_nonneg hr0]
    unfold runOf
    show (match bTake [.val (.loc 0), .val (.int n), .un, .un, .un, .un] [boxD a b c] with | .ret d μ => Res.ok d μ | .nxt _ μ => .ok (.val .non) μ | .exc e _ μ => .exc e μ | _ => .bad) = _
    unfold bTake
    rw [fSeq_nxt T, fSeq_nxt E1, fSeq_nxt E2, fSeq_nxt E3, fSeq_nxt E4, E5]
end Gn

set_option Elab.async false
set_option linter.all false
set_option maxRecDepth 100000
set_option maxHeartbeats 4000000
/-! GB: drawing out of lists, the script's numbers, the box. -/
namespace Gn
open PySem Q
/-- what a reading of _law_take does -/
def TakeS (rt : RunF) : Prop := ∀ (n : Int) (N : Nat) (μ : Mu), 0 < n → n < 1073741824 → N ≤ 1000000000000 → Bx N μ → ∃ (r : Nat) (μ' : Mu), rt [.loc 0, .int n] μ = .ok (.val (.int (r : Int))) μ' ∧ (r : Int) < n ∧ Bx (N+1) μ'
theorem takeS : TakeS (runOf 6 bTake) := fun n N μ h0 h1 hN h => take_ok n h0 h1 N hN μ h
def bOf (rt : RunF) : FS := (fRet (fMv (fB gIx (fVar 1) (fFn 2 rt (fCons (fVar 0) (fCons (fCall gLen (fConsr (fVar 1) fNilr)) fNil))))))
theorem atI_nat (ds : List D) (i : Nat) : L2.atI ds (i : Int) = ds[i]? := by
  unfold L2.atI L2.ixN
  rw [if_pos (by omega)]
  by_cases h : (i : Int) < (ds.length : Int)
  · rw [if_pos h, Option.bind_some, Int.toNat_natCast]
  · rw [if_neg h, List.getElem?_eq_none (by omega)]
    rfl
theorem of_ok {rt : RunF} (ht : TakeS rt) (ds : List D) (h0 : 0 < ds.length) (hl : ds.length ≤ 1000000) (N : Nat) (hN : N ≤ 1000000000000) (μ : Mu) (h : Bx N μ) : ∃ (d : D) (μ' : Mu), d ∈ ds ∧ runOf 2 (bOf rt) [.loc 0, .lst ds] μ = .ok (.val d) μ' ∧ Bx (N+1) μ' := by
  obtain ⟨r, μ', e, hr, hb⟩ := ht (ds.length : Int) N μ (by omega) (by omega) hN h
  have lr : r < ds.length := by omega
  refine ⟨ds[r], μ', List.getElem_mem _, ?_, hb⟩
  have q := atI_nat ds r
  rw [List.getElem?_eq_getElem lr] at q
  have z : ds.length ≤ LIM := by unfold LIM; omega
  simp [runOf, envOf, bOf, fRet, fMv, fB, fVar, fFn, fCons, fNil, fCall, fConsr, fNilr, gLen, sq, SqD.items, Res.bind, Res.to, e, gIx, q, z]
/-! ### up to so many different ones -/
def bPick (rt : RunF) : FS := (fSeq (fPar 3 4 (fMo (fCall gList (fConsr (fVar 1) fNilr))) (fMo (fLst fNil)))
    (fSeq (fFor (fRng1 (fCall gMin2 (fConsr (fCall gInt (fConsr (fVar 2) fNilr)) (fConsr (fCall gLen (fConsr (fVar 3) fNilr)) fNilr)))) (.nm 5) (fAppPop 4 3 (fFn 2 rt (fCons (fVar 0) (fCons (fCall gLen (fConsr (fVar 3) fNilr)) fNil)))))
    (fRetO 4)))
theorem pick_loop {rt : RunF} (ht : TakeS rt) (ds : List D) (e1 e2 : EV) : ∀ (m : Nat) (i : Int) (pool found : List D) (e5 : EV) (N : Nat) (μ : Mu), m ≤ pool.length → pool.length ≤ 1000000 → found.length + m ≤ 1000000 → N + m ≤ 1000000000000 → Bx N μ → (∀ d ∈ pool, d ∈ ds) → (∀ d ∈ found, d ∈ ds) →
    ∃ pool' found' e5' μ', loop (.nm 5) (fAppPop 4 3 (fFn 2 rt (fCons (fVar 0) (fCons (fCall gLen (fConsr (fVar 3) fNilr)) fNil)))) (rangeD i m) [.val (.loc 0), e1, e2, .own pool, .own found, e5] μ = .nxt [.val (.loc 0), e1, e2, .own pool', .own found', e5'] μ' ∧ (∀ d ∈ found', d ∈ ds) ∧ found'.length = found.length + m ∧ Bx (N + m) μ'
  | 0, i, pool, found, e5, N, μ, _, _, _, _, hb, _, hf => ⟨pool, found, e5, μ, by simp [rangeD, loop], hf, rfl, hb⟩
  | m + 1, i, pool, found, e5, N, μ, h1, h2, h3, hN, hb, hp, hf => by
    obtain ⟨r, μ1, e, hr, hb1⟩ := ht (pool.length : Int) N μ (by omega) (by omega) (by omega) hb
    have lr : r < pool.length := by omega
    have l2 : (pool.eraseIdx r).length = pool.length - 1 := by rw [List.length_eraseIdx, if_pos lr]
    obtain ⟨pool', found', e5', μ', L, q1, q2, q3⟩ := pick_loop ht ds e1 e2 m (i + 1) (pool.eraseIdx r) (found ++ [pool[r]]) (.val (.int i)) (N + 1) μ1 (by omega) (by omega) (by rw [List.length_append, List.length_singleton]; omega) (by omega) hb1 (fun d hd => hp d (List.mem_of_mem_eraseIdx hd)) fun d hd => by
      rcases List.mem_append.mp hd with hd | hd
      · exact hf d hd
      · rw [List.mem_singleton.mp hd]; exact hp _ (List.getElem_mem _)
    refine ⟨pool', found', e5', μ', ?_, q1, by rw [q2, List.length_append, List.length_singleton]; omega, by rw [show N + (m + 1) = N + 1 + m by omega]; exact q3⟩
    have z : pool.length ≤ LIM := by unfold LIM; omega
    have z2 : found.length < LIM := by unfold LIM; omega
    have x : L2.ixN pool.length (r : Int) = some r := by
      unfold L2.ixN
      rw [if_pos (by omega), if_pos (by omega), Int.toNat_natCast]
    have st : fAppPop 4 3 (fFn 2 rt (fCons (fVar 0) (fCons (fCall gLen (fConsr (fVar 3) fNilr)) fNil))) [.val (.loc 0), e1, e2, .own pool, .own found, .val (.int i)] μ = .nxt [.val (.loc 0), e1, e2, .own (pool.eraseIdx r), .own (found ++ [pool[r]]), .val (.int i)] μ1 := by
      simp [fAppPop, getL, fFn, fCons, fVar, fNil, fCall, fConsr, fNilr, gLen, sq, SqD.items, Res.bind, Res.to, e, x, z, z2, List.getElem?_eq_getElem lr, putL]
    simp [rangeD, loop, Tg.bind, st]
    exact L
theorem pick_ok {rt : RunF} (ht : TakeS rt) (ds : List D) (c : Nat) (hc : c ≤ 1000000) (hl : ds.length ≤ 1000000) (N : Nat) (hN : N + c ≤ 1000000000000) (μ : Mu) (h : Bx N μ) : ∃ (es : List D) (μ' : Mu), (∀ e ∈ es, e ∈ ds) ∧ es.length ≤ c ∧ runOf 6 (bPick rt) [.loc 0, .lst ds, .int (c : Int)] μ = .ok (.own es) μ' ∧ Bx (N + c) μ' := by
  obtain ⟨pool', es, e5', μ', L, q1, q2, q3⟩ := pick_loop ht ds (.val (.lst ds)) (.val (.int (c : Int))) (min c ds.length) 0 ds [] .un N μ (by omega) hl (by simp only [List.length_nil]; omega) (by omega) h (fun _ h => h) (fun _ h => by cases h)
  refine ⟨es, μ', q1, by simp only [List.length_nil] at q2; omega, ?_, q3.up (by omega)⟩
  have z : ds.length ≤ LIM := by unfold LIM; omega
  have g : (if (ds.length : Int) < (c : Int) then (ds.length : Int) else (c : Int)) = ((min c ds.length : Nat) : Int) := by
    split <;> omega
  have rk : rngOk ((min c ds.length : Nat) : Int) = true := decide_eq_true (by rw [Int.natAbs_natCast]; omega)
  have E1 : fPar 3 4 (fMo (fCall gList (fConsr (fVar 1) fNilr))) (fMo (fLst fNil)) [.val (.loc 0), .val (.lst ds), .val (.int (c : Int)), .un, .un, .un] μ = .nxt [.val (.loc 0), .val (.lst ds), .val (.int (c : Int)), .own ds, .own [], .un] μ := by
    simp [fPar, fMo, fCall, fConsr, fNilr, fVar, gList, sq, SqD.items, fLst, fNil, Res.bind, Res.to, z]
  have E2 : fRng1 (fCall gMin2 (fConsr (fCall gInt (fConsr (fVar 2) fNilr)) (fConsr (fCall gLen (fConsr (fVar 3) fNilr)) fNilr))) [.val (.loc 0), .val (.lst ds), .val (.int (c : Int)), .own ds, .own [], .un] μ = .ok (rangeD 0 (min c ds.length)) μ := by
    have a : fCall gMin2 (fConsr (fCall gInt (fConsr (fVar 2) fNilr)) (fConsr (fCall gLen (fConsr (fVar 3) fNilr)) fNilr)) [.val (.loc 0), .val (.lst ds), .val (.int (c : Int)), .own ds, .own [], .un] μ = .ok (.val (.int ((min c ds.length : Nat) : Int))) μ := by
      rw [← g]
      simp [fCall, fConsr, fNilr, fVar, gInt, gLen, gMin2, gI2, sq, SqD.items, Res.bind, z]
    unfold fRng1
    rw [a]
    simp only [Res.bind, rk, if_true, Int.toNat_natCast]
  have E3 : fFor (fRng1 (fCall gMin2 (fConsr (fCall gInt (fConsr (fVar 2) fNilr)) (fConsr (fCall gLen (fConsr (fVar 3) fNilr)) fNilr)))) (.nm 5) (fAppPop 4 3 (fFn 2 rt (fCons (fVar 0) (fCons (fCall gLen (fConsr (fVar 3) fNilr)) fNil)))) [.val (.loc 0), .val (.lst ds), .val (.int (c : Int)), .own ds, .own [], .un] μ = .nxt [.val (.loc 0), .val (.lst ds), .val (.int (c : Int)), .own pool', .own es, e5'] μ' := by
    unfold fFor
    rw [E2]
    exact L
  unfold runOf
  show (match bPick rt [.val (.loc 0), .val (.lst ds), .val (.int (c : Int)), .un, .un, .un] μ with | .ret d μ => Res.ok d μ | .nxt _ μ => .ok (.val .non) μ | .exc e _ μ => .exc e μ | _ => .bad) = _
  unfold bPick
  rw [fSeq_nxt E1, fSeq_nxt E3]
  rfl
/-! ### the box -/
def bBox (q : Int) : FS := (fSeq (fSet 2 (fMv (fIf (fTB (fB gLt (fVar 1) (fCall gLen (fConsr (fVar 0) fNilr)))) (fB gIx (fVar 0) (fVar 1)) (fC (.int 0)))))
    (fRet (fMo (fLst (fCons (fB gMul (fCall gAbs (fConsr (fVar 2) fNilr)) (fCall gInt (fConsr (fB gGe (fCall gAbs (fConsr (fVar 2) fNilr)) (fB gPow (fC (.int 10)) (fC (.int 18)))) fNilr))) (fCons (fB gAdd (fB gAdd (fB gMod (fCall gInt (fConsr (fVar 2) fNilr)) (fC (.int 2305843009213693951))) (fB gMul (fC (.int 39373)) (fVar 1))) (fC (.int q))) (fCons (fC (.int 0)) fNil)))))))
theorem box_ok (q : Int) (cs : List Int) (k : Nat) (hk : k < cs.length) (hl : cs.length ≤ 1000) (μ : Mu) : ∃ ds, runOf 3 (bBox q) [.lst (cs.map .int), .int (k : Int)] μ = .ok (.own ds) μ ∧ Bx 0 [ds] := by
  have ek : (cs.map D.int)[k]? = some (.int cs[k]) := by rw [List.getElem?_map, List.getElem?_eq_getElem hk]; rfl
  have x := atI_nat (cs.map D.int) k
  rw [ek] at x
  generalize cs[k] = c at x
  have z : cs.length ≤ LIM := by unfold LIM; omega
  have E1 : fSet 2 (fMv (fIf (fTB (fB gLt (fVar 1) (fCall gLen (fConsr (fVar 0) fNilr)))) (fB gIx (fVar 0) (fVar 1)) (fC (.int 0)))) [.val (.lst (cs.map .int)), .val (.int (k : Int)), .un] μ = .nxt [.val (.lst (cs.map .int)), .val (.int (k : Int)), .val (.int c)] μ := by
    simp [fSet, fMv, fIf, fTB, fB, fVar, fCall, fConsr, fNilr, gLen, gLt, gIB, sq, SqD.items, Res.bind, Res.to, gIx, x, hk, z]
  have v1 : ∀ (env : En) (μ : Mu), fC (.int 0) env μ = .ok (.val (.int 0)) μ := fun _ _ => rfl
  have ab : fCall gAbs (fConsr (fVar 2) fNilr) [.val (.lst (cs.map .int)), .val (.int (k : Int)), .val (.int c)] μ = .ok (.val (.int (if c < 0 then -c else c))) μ := by
    simp [fCall, fConsr, fNilr, fVar, gAbs, gI1, Res.bind]
  have pw : fB gPow (fC (.int 10)) (fC (.int 18)) [.val (.lst (cs.map .int)), .val (.int (k : Int)), .val (.int c)] μ = .ok (.val (.int (1000000000000000000))) μ := rfl
  obtain ⟨t, ht, ge⟩ : ∃ t : Int, (t = 0 ∨ t = 1) ∧ fCall gInt (fConsr (fB gGe (fCall gAbs (fConsr (fVar 2) fNilr)) (fB gPow (fC (.int 10)) (fC (.int 18)))) fNilr) [.val (.lst (cs.map .int)), .val (.int (k : Int)), .val (.int c)] μ = .ok (.val (.int t)) μ := by
    refine ⟨_, ?_, fIntB (fGeE ab pw)⟩
    generalize decide ((1000000000000000000 : Int) ≤ (if c < 0 then -c else c)) = b
    cases b
    · exact .inl rfl
    · exact .inr rfl
  have m1 := fMulE ab ge (mulOk_r (by omega) (by omega))
  have v2 : fVar 2 [.val (.lst (cs.map .int)), .val (.int (k : Int)), .val (.int c)] μ = .ok (.val (.int c)) μ := rfl
  have vk : fVar 1 [.val (.lst (cs.map .int)), .val (.int (k : Int)), .val (.int c)] μ = .ok (.val (.int (k : Int))) μ := rfl
  have cC : ∀ (i : Int) (env : En) (μ : Mu), fC (.int i) env μ = .ok (.val (.int i)) μ := fun _ _ _ => rfl
  have m2 := fAddE (fAddE (fModE (fIntE v2) (cC 2305843009213693951 _ _) (by omega)) (fMulE (cC 39373 _ _) vk (mulOk_r (by omega) (by omega)))) (cC q _ _)
  refine ⟨boxD ((if c < 0 then -c else c) * t) (c % 2305843009213693951 + 39373 * (k : Int) + q) 0, ?_, ⟨_, _, _, rfl, ?_, by omega, by omega⟩⟩
  · unfold runOf
    show (match bBox q [.val (.lst (cs.map .int)), .val (.int (k : Int)), .un] μ with | .ret d μ => Res.ok d μ | .nxt _ μ => .ok (.val .non) μ | .exc e _ μ => .exc e μ | _ => .bad) = _
    unfold bBox
    rw [fSeq_nxt E1]
    simp only [fRet, fMo, fLst, fCons, fNil, m1, m2, cC, Res.bind, Res.to]
    simp [LIM, boxD]
  · have : 0 ≤ (if c < 0 then -c else c) := by split <;> omega
    rcases ht with rfl | rfl
    · simp
    · simpa using this
end Gn

set_option Elab.async false
set_option linter.all false
set_option maxRecDepth 100000
set_option maxHeartbeats 4000000
/-! GC: the first numbers of the script; the law's last rows. -/
namespace Gn
open PySem Q
def bCells : FS := (fSeq (fSet 2 (fMo (fOrN (fCall gList (fConsr (fSl gSl (fVar 0) fNoO (fSomeO (fVar 1))) fNilr)) (fLst (fCons (fC (.int 0)) fNil)))))
    (fSeq (fFor (fEn (fSl gSl (fVar 0) (fSomeO (fVar 1)) (fSomeO (fC (.int 63))))) (.tp [(.nm 3), (.nm 4)]) (fSeq (fSet 5 (fMv (fB gMod (fCall gInt (fConsr (fVar 3) fNilr)) (fVar 1))))
    (fSetIx 2 (fB gAdd (fB gIx (fVar 2) (fVar 5)) (fB gMul (fVar 4) (fB gAdd (fVar 3) (fC (.int 2))))) (fVar 5))))
    (fRetO 2)))
theorem cut_to {α : Type} (xs : List α) (n : Nat) : cut xs none (some (n : Int)) = xs.take n := by
  unfold cut
  rw [HT.sIx_nat, HT.sIx_none, Nat.sub_zero, List.drop_zero, List.take_eq_take_iff]
  omega
theorem cut_from {α : Type} (xs : List α) (n : Nat) : cut xs (some (n : Int)) none = xs.drop n := by
  unfold cut
  rw [HT.sIx_nat, HT.sIx_none]
  by_cases h : n ≤ xs.length
  · rw [Nat.min_eq_left h, List.take_of_length_le (by rw [List.length_drop]; omega)]
  · rw [Nat.min_eq_right (by omega), Nat.sub_self, List.take_zero, List.drop_of_length_le (by omega)]
theorem cut_mid {α : Type} (xs : List α) (n m : Nat) (h : xs.length ≤ m) : cut xs (some (n : Int)) (some (m : Int)) = xs.drop n := by
  unfold cut
  rw [HT.sIx_nat, HT.sIx_nat]
  by_cases h' : n ≤ xs.length
  · rw [Nat.min_eq_left h', List.take_of_length_le (by rw [List.length_drop]; omega)]
  · rw [Nat.min_eq_right (Nat.le_of_not_le h'), List.drop_of_length_le (Nat.le_refl _), List.drop_of_length_le (by omega), List.take_nil]
theorem cells_loop (m : Nat) (hm : 0 < m) (e0 : EV) (μ : Mu) : ∀ (ns : List Int) (i : Nat) (cs : List Int) (e3 e4 e5 : EV), i + ns.length ≤ 1000 → cs.length = m →
    ∃ cs' : List Int, ∃ a3 a4 a5, cs'.length = m ∧ loop (.tp [(.nm 3), (.nm 4)]) (fSeq (fSet 5 (fMv (fB gMod (fCall gInt (fConsr (fVar 3) fNilr)) (fVar 1))))
    (fSetIx 2 (fB gAdd (fB gIx (fVar 2) (fVar 5)) (fB gMul (fVar 4) (fB gAdd (fVar 3) (fC (.int 2))))) (fVar 5))) (enumD (i : Int) (ns.map .int)) [e0, .val (.int (m : Int)), .own (cs.map .int), e3, e4, e5] μ = .nxt [e0, .val (.int (m : Int)), .own (cs'.map .int), a3, a4, a5] μ
  | [], i, cs, e3, e4, e5, _, hc => ⟨cs, e3, e4, e5, hc, by simp [enumD, loop]⟩
  | z :: ns, i, cs, e3, e4, e5, hi, hc => by
    simp only [List.length_cons] at hi
    have lt : i % m < cs.length := by rw [hc]; exact Nat.mod_lt _ hm
    obtain ⟨cs', a3, a4, a5, q1, q2⟩ := cells_loop m hm e0 μ ns (i + 1) (cs.set (i % m) (cs[i % m] + z * ((i : Int) + 2))) (.val (.int (i : Int))) (.val (.int z)) (.val (.int ((i % m : Nat) : Int))) (by omega) (by rw [List.length_set]; exact hc)
    refine ⟨cs', a3, a4, a5, q1, ?_⟩
    have en : ((i + 1 : Nat) : Int) = (i : Int) + 1 := by omega
    rw [en] at q2
    have E1 : fSet 5 (fMv (fB gMod (fCall gInt (fConsr (fVar 3) fNilr)) (fVar 1))) [e0, .val (.int (m : Int)), .own (cs.map .int), .val (.int (i : Int)), .val (.int z), e5] μ = .nxt [e0, .val (.int (m : Int)), .own (cs.map .int), .val (.int (i : Int)), .val (.int z), .val (.int ((i % m : Nat) : Int))] μ := by
      have q := fModE (fIntE (fa := fVar 3) (env := [e0, .val (.int (m : Int)), .own (cs.map .int), .val (.int (i : Int)), .val (.int z), e5]) (μ := μ) (x := (i : Int)) rfl) (fb := fVar 1) (y := (m : Int)) rfl (by omega)
      have q := fSetE (i := 5) q
      rw [← Int.natCast_emod] at q
      exact q
    have x : L2.atI (cs.map D.int) ((i % m : Nat) : Int) = some (.int cs[i % m]) := by
      rw [atI_nat, List.getElem?_map, List.getElem?_eq_getElem lt]; rfl
    have x2 : L2.ixN cs.length ((i % m : Nat) : Int) = some (i % m) := by
      unfold L2.ixN
      rw [if_pos (by omega), if_pos (by omega), Int.toNat_natCast]
    have E2 : fSetIx 2 (fB gAdd (fB gIx (fVar 2) (fVar 5)) (fB gMul (fVar 4) (fB gAdd (fVar 3) (fC (.int 2))))) (fVar 5) [e0, .val (.int (m : Int)), .own (cs.map .int), .val (.int (i : Int)), .val (.int z), .val (.int ((i % m : Nat) : Int))] μ = .nxt [e0, .val (.int (m : Int)), .own ((cs.set (i % m) (cs[i % m] + z * ((i : Int) + 2))).map .int), .val (.int (i : Int)), .val (.int z), .val (.int ((i % m : Nat) : Int))] μ := by
      have g1 : fB gIx (fVar 2) (fVar 5) [e0, .val (.int (m : Int)), .own (cs.map .int), .val (.int (i : Int)), .val (.int z), .val (.int ((i % m : Nat) : Int))] μ = .ok (.val (.int cs[i % m])) μ := by
        simp only [fB, fVar, Res.bind, List.getElem?_cons_succ, List.getElem?_cons_zero, gIx, sq, SqD.items, x]
      have g2 := fMulE (fa := fVar 4) (env := [e0, .val (.int (m : Int)), .own (cs.map .int), .val (.int (i : Int)), .val (.int z), .val (.int ((i % m : Nat) : Int))]) (μ := μ) (x := z) rfl (fAddE (fa := fVar 3) (x := (i : Int)) (fb := fC (.int 2)) (y := 2) rfl rfl) (mulOk_r (by omega) (by omega))
      have g3 := fAddE g1 g2
      simp only [fSetIx, g3, Res.to, fVar, getL, putL, List.getElem?_cons_succ, List.getElem?_cons_zero, List.length_map, x2, List.set_cons_succ, List.set_cons_zero, List.map_set]
    simp only [List.map_cons, enumD]
    rw [loop_nxt (env1 := [e0, .val (.int (m : Int)), .own (cs.map .int), .val (.int (i : Int)), .val (.int z), e5]) rfl ((fSeq_nxt E1).trans E2)]
    exact q2
theorem cells_ok (m : Nat) (hm : 0 < m) (hm2 : m ≤ 60) (ns : List Int) (hl : ns.length ≤ 63) (μ : Mu) : ∃ cs : List Int, runOf 6 bCells [.frz (ns.map .int), .int (m : Int)] μ = .ok (.own (cs.map .int)) μ ∧ 1 ≤ cs.length ∧ cs.length ≤ m := by
  have c1 : cut (ns.map D.int) none (some (m : Int)) = (ns.take m).map .int := by rw [cut_to, List.map_take]
  have c2 : cut (ns.map D.int) (some (m : Int)) (some 63) = (ns.drop m).map .int := by
    have := cut_mid (ns.map D.int) m 63 (by rw [List.length_map]; exact hl)
    rw [← List.map_drop] at this
    exact this
  have z : (ns.take m).length ≤ LIM := by rw [List.length_take]; unfold LIM; omega
  let c0 : List Int := if (ns.take m).isEmpty then [0] else ns.take m
  have E1 : fSet 2 (fMo (fOrN (fCall gList (fConsr (fSl gSl (fVar 0) fNoO (fSomeO (fVar 1))) fNilr)) (fLst (fCons (fC (.int 0)) fNil)))) [.val (.frz (ns.map .int)), .val (.int (m : Int)), .un, .un, .un, .un] μ = .nxt [.val (.frz (ns.map .int)), .val (.int (m : Int)), .own (c0.map .int), .un, .un, .un] μ := by
    have a : fCall gList (fConsr (fSl gSl (fVar 0) fNoO (fSomeO (fVar 1))) fNilr) [.val (.frz (ns.map .int)), .val (.int (m : Int)), .un, .un, .un, .un] μ = .ok (.val (.lst ((ns.take m).map .int))) μ := by
      simp [fCall, fConsr, fNilr, fSl, fVar, fNoO, fSomeO, gSl, sq, SqD.items, Res.bind, c1, gList]
    simp only [fSet, fMo, fOrN, a, Res.bind]
    cases h : ns.take m with
    | nil => simp [c0, h, fLst, fCons, fC, fNil, Res.bind, Res.to, LIM]
    | cons x xs => simp [c0, h, Res.bind, Res.to]
  have E2 : fEn (fSl gSl (fVar 0) (fSomeO (fVar 1)) (fSomeO (fC (.int 63)))) [.val (.frz (ns.map .int)), .val (.int (m : Int)), .own (c0.map .int), .un, .un, .un] μ = .ok (enumD 0 ((ns.drop m).map .int)) μ := by
    simp [fEn, fSl, fVar, fC, fSomeO, gSl, sq, Res.bind, c2, srcD]
  have fin : ∀ (cs : List D) (a3 a4 a5 : EV), loop (.tp [(.nm 3), (.nm 4)]) (fSeq (fSet 5 (fMv (fB gMod (fCall gInt (fConsr (fVar 3) fNilr)) (fVar 1)))) (fSetIx 2 (fB gAdd (fB gIx (fVar 2) (fVar 5)) (fB gMul (fVar 4) (fB gAdd (fVar 3) (fC (.int 2))))) (fVar 5))) (enumD 0 ((ns.drop m).map .int)) [.val (.frz (ns.map .int)), .val (.int (m : Int)), .own (c0.map .int), .un, .un, .un] μ = .nxt [.val (.frz (ns.map .int)), .val (.int (m : Int)), .own cs, a3, a4, a5] μ → runOf 6 bCells [.frz (ns.map .int), .int (m : Int)] μ = .ok (.own cs) μ := fun cs a3 a4 a5 hr => by
    refine runOf_ret [.val (.frz (ns.map .int)), .val (.int (m : Int)), .un, .un, .un, .un] rfl ?_
    unfold bCells
    rw [fSeq_nxt E1, fSeq_nxt (fFor_nxt E2 hr)]
    rfl
  by_cases hn : ns.length ≤ m
  · have d0 : ns.drop m = [] := List.drop_of_length_le hn
    have L : loop (.tp [(.nm 3), (.nm 4)]) (fSeq (fSet 5 (fMv (fB gMod (fCall gInt (fConsr (fVar 3) fNilr)) (fVar 1)))) (fSetIx 2 (fB gAdd (fB gIx (fVar 2) (fVar 5)) (fB gMul (fVar 4) (fB gAdd (fVar 3) (fC (.int 2))))) (fVar 5))) (enumD 0 ((ns.drop m).map .int)) [.val (.frz (ns.map .int)), .val (.int (m : Int)), .own (c0.map .int), .un, .un, .un] μ = .nxt [.val (.frz (ns.map .int)), .val (.int (m : Int)), .own (c0.map .int), .un, .un, .un] μ := by
      rw [d0]; rfl
    refine ⟨c0, ?_, ?_, ?_⟩
    · exact fin _ _ _ _ L
    · simp only [c0]; cases h : ns.take m <;> simp
    · simp only [c0]
      cases h : ns.take m with
      | nil => simp; omega
      | cons x xs =>
        have := List.length_take_le m ns
        rw [h] at this
        simpa using this
  · have lc : c0.length = m := by
      simp only [c0]
      have : (ns.take m).length = m := by rw [List.length_take]; omega
      cases h : ns.take m with
      | nil => rw [h] at this; simp at this; omega
      | cons x xs => rw [h] at this; simpa using this
    obtain ⟨cs', a3, a4, a5, q1, L⟩ := cells_loop m hm (.val (.frz (ns.map .int))) μ (ns.drop m) 0 c0 .un .un .un (by rw [List.length_drop]; omega) lc
    refine ⟨cs', ?_, by omega, by omega⟩
    exact fin _ _ _ _ L
end Gn

set_option Elab.async false
set_option linter.all false
set_option maxRecDepth 100000
set_option maxHeartbeats 4000000
/-! GD: rows of things that are taken; a call's first steps. -/
namespace Gn
open PySem Q
theorem fB_eq {fa fb : FE} {env : En} {μ μ1 μ2 : Mu} {x y : RV} (g : G2) (h1 : fa env μ = .ok x μ1) (h2 : fb env μ1 = .ok y μ2) : fB g fa fb env μ = g env x y μ2 := by
  unfold fB
  rw [h1]
  show Res.bind (fb env μ1) _ = _
  rw [h2]
  rfl
theorem fLc_eq {fi : FI} {t : Tg} {ft : FT} {fe : FE} {vs : List Nat} {env : En} {μ μ1 μ2 : Mu} {ds l : List D} (h1 : fi env μ = .ok ds μ1) (h2 : ds.length ≤ LIM) (h3 : lcLoop t ft fe (wipeE env vs) ds μ1 [] = .ok l μ2) : fLc fi t ft fe vs env μ = .ok (.val (.lst l)) μ2 := by
  unfold fLc
  rw [h1]
  simp only [Res.bind, if_pos h2, h3]
theorem fRng1_eq {fa : FE} {env : En} {μ μ1 : Mu} {n : Nat} (h : fa env μ = .ok (.val (.int (n : Int))) μ1) (hr : n ≤ 1000000) : fRng1 fa env μ = .ok (rangeD 0 n) μ1 := by
  have hr : rngOk (n : Int) = true := decide_eq_true (by rw [Int.natAbs_natCast]; omega)
  unfold fRng1
  rw [h]
  simp only [Res.bind, hr, if_true, Int.toNat_natCast]
theorem fTupCall {fa : FE} {env : En} {μ μ1 : Mu} {l : List D} (h : fa env μ = .ok (.val (.lst l)) μ1) : fCall gTuple (fConsr fa fNilr) env μ = .ok (.val (.tup l)) μ1 := by
  simp [fCall, fConsr, fNilr, h, gTuple, sq, SqD.items, Res.bind]
theorem gAdd_tup {a b : List D} {env : En} {μ : Mu} (h : a.length + b.length ≤ LIM) : gAdd env (.val (.tup a)) (.val (.tup b)) μ = .ok (.val (.tup (a ++ b))) μ := by
  simp only [gAdd, if_pos h]
theorem fIf_t {ft : FT} {f g : FS} {env : En} {μ μ1 : Mu} (h : ft env μ = .ok true μ1) : fIfS ft f g env μ = f env μ1 := by
  simp only [fIfS, h, Res.to, if_true]
theorem fIf_f {ft : FT} {f g : FS} {env : En} {μ μ1 : Mu} (h : ft env μ = .ok false μ1) : fIfS ft f g env μ = g env μ1 := by
  simp only [fIfS, h, Res.to, Bool.false_eq_true, if_false]
theorem fIf_n {ft : FT} {f : FS} {env : En} {μ μ1 : Mu} (h : ft env μ = .ok false μ1) : fIfS ft f fNext env μ = .nxt env μ1 := by
  simp only [fIfS, h, Res.to, Bool.false_eq_true, if_false, fNext]
theorem fOr_eq {fa fb : FT} {env : En} {μ μ1 : Mu} {b : Bool} (h : fa env μ = .ok b μ1) : fOr fa fb env μ = if b then .ok true μ1 else fb env μ1 := by
  simp only [fOr, h, Res.bind]
theorem fAnd_eq {fa fb : FT} {env : En} {μ μ1 : Mu} {b : Bool} (h : fa env μ = .ok b μ1) : fAnd fa fb env μ = if b then fb env μ1 else .ok false μ1 := by
  simp only [fAnd, h, Res.bind]
theorem fTB_eq {fa : FE} {env : En} {μ μ1 : Mu} {b : Bool} (h : fa env μ = .ok (.val (.bl b)) μ1) : fTB fa env μ = .ok b μ1 := by
  simp only [fTB, h, Res.bind]
/-- the things that are taken -/
theorem flt {α : Type} (i : Nat) (ft : FT) (env : En) (e : α → D) (c : α → Bool) (μ : Mu) (hi : i < env.length) : ∀ (T : List α) (acc : List D), (∀ x ∈ T, ft (env.set i (.val (e x))) μ = .ok (c x) μ) →
    lcLoop (.nm i) ft (fVar i) env (T.map e) μ acc = .ok (acc ++ (T.filter c).map e) μ
  | [], acc, _ => by simp [lcLoop]
  | x :: T, acc, h => by
    have h1 := h x List.mem_cons_self
    have v : fVar i (env.set i (.val (e x))) μ = .ok (.val (e x)) μ := by simp [fVar, hi]
    cases hc : c x with
    | true =>
      have ih := flt i ft env e c μ hi T (acc ++ [e x]) fun y hy => h y (List.mem_cons_of_mem _ hy)
      rw [hc] at h1
      rw [List.filter_cons_of_pos hc]
      simp [lcLoop, Tg.bind, hi, h1, v, Res.nx, Res.bind, ih]
    | false =>
      have ih := flt i ft env e c μ hi T acc fun y hy => h y (List.mem_cons_of_mem _ hy)
      rw [hc] at h1
      rw [List.filter_cons_of_neg (by simp [hc])]
      simp [lcLoop, Tg.bind, hi, h1, Res.nx, Res.bind, ih]
theorem lc_yes {t : Tg} {fe : FE} {env env' : En} {d x : D} {ds acc : List D} {μ μ1 : Mu} (hb : t.bind d env = some env') (h : fe env' μ = .ok (.val x) μ1) : lcLoop t fYes fe env (d :: ds) μ acc = lcLoop t fYes fe env ds μ1 (acc ++ [x]) := by
  simp only [lcLoop, hb, fYes, Res.nx, Res.bind, if_true, h]
theorem gEq_int (i j : Int) (env : En) (μ : Mu) : gEq env (.val (.int i)) (.val (.int j)) μ = .ok (.val (.bl (decide (i = j)))) μ := by
  simp [gEq, rd, D.scal2, D.plain, D.dep, D.eq]; rw [Bool.eq_iff_iff]; simp
theorem fSlTo {fe fh : FE} {env : En} {μ : Mu} {ds : List D} {n : Nat} (h1 : fe env μ = .ok (.val (.tup ds)) μ) (h2 : fh env μ = .ok (.val (.int (n : Int))) μ) : fSl gSl fe fNoO (fSomeO fh) env μ = .ok (.val (.tup (ds.take n))) μ := by
  have c := cut_to ds n
  simp only [fSl, h1, h2, fNoO, fSomeO, Res.bind, gSl, sq, c]
theorem fSlFrom {fe fh : FE} {env : En} {μ : Mu} {ds : List D} {n : Nat} (h1 : fe env μ = .ok (.val (.tup ds)) μ) (h2 : fh env μ = .ok (.val (.int (n : Int))) μ) : fSl gSl fe (fSomeO fh) fNoO env μ = .ok (.val (.tup (ds.drop n))) μ := by
  have c := cut_from ds n
  simp only [fSl, h1, h2, fNoO, fSomeO, Res.bind, gSl, sq, c]
end Gn

set_option linter.all false
set_option maxRecDepth 100000
set_option maxHeartbeats 4000000
namespace Kx
open PySem Q
local macro_rules | `(tactic| simp_arith [$as,*] $[$l]?) => `(tactic| simp [runOf, envOf, fSeq, fIfS, fTB, fB, gEq, gNe, gGt, gLt, gLe, gGe, gIB, fVar, fC, gIx, sq, Res.bind, Res.to, L2.atI, L2.ixN, fSet, fMv, fMo, fSetIx, fRet, gMod, gDiv, gI, gAdd, gMul, fCall, fConsr, fNilr, gInt, getL, putL, SqD.items, fOr, fAnd, fOrV, fAndV, fNotV, fNot, fTT, tru, fFn, fCons, fNil, fNext, gLen, rd, fYes, wipeE, Tg.bind, Tg.binds, Res.nx, fZp, srcD, zipD, fSl, gSl, fSomeO, fNoO, fTup, fLst, fLc, List.replicate, D.scal2, D.eq, D.eqs, D.plain, D.plains, D.dep, D.deps, LIM, n1_ne, n1_beq, n1_bne, n1_pos, cut1, srcD_sq, fIf, gTuple, gList, fRaise, gIsN, gNotN, RV.isN, fIsi, isi, subTy, tyGo, tyName, fAny, $as,*] $[$l]?)
/-- a form with something put at a place -/
def putD : Fm → List Nat → D → D
  | _, [], x => x
  | .op, _ :: _, x => x
  | .nd s ps, i :: l, x => match ps[i]? with
    | some p => .tup (.str s :: ((Fm.ds false ps).take i ++ putD p l x :: (Fm.ds false ps).drop (i + 1)))
    | none => x
theorem put_ok : ∀ (l : List Nat) (k : Nat) (f g : Fm) (x : D) (μ : Mu), pt l f = some g → l.length + 1 ≤ k → f.few = true → run k 20 [f.d false, pl l, x] μ = .ok (.val (putD f l x)) μ
  | [], k, f, g, x, μ, _, hk, _ => by
    obtain ⟨k, rfl⟩ : ∃ j, k = j + 1 := ⟨k - 1, by simp only [List.length_nil] at hk; omega⟩
    have e : run (k+1) 20 = runOf 4 (b20 (run k)) := rfl
    rw [e]
    simp [runOf, envOf, b20, fSeq, fIfS, fTB, fB, fVar, fTup, fNil, gEq, rd, pl, D.scal2, D.plain, D.plains, D.dep, D.deps, D.eq, D.eqs, Res.bind, Res.to, fRet, fMv, putD]
  | i :: l, k, .op, g, x, μ, h, _, _ => by simp [pt] at h
  | i :: l, k, .nd s ps, g, x, μ, h, hk, hf => by
    obtain ⟨k, rfl⟩ : ∃ j, k = j + 1 := ⟨k - 1, by simp only [List.length_cons] at hk; omega⟩
    have e : run (k+1) 20 = runOf 4 (b20 (run k)) := rfl
    simp only [pt] at h
    cases hp : ps[i]? with
    | none => rw [hp] at h; simp at h
    | some p =>
      rw [hp] at h
      have hf2 : ps.length ≤ 1000 ∧ Fm.fews ps = true := by simpa [Fm.few] using hf
      have ih := put_ok l k p g x μ h (by simp only [List.length_cons] at hk; omega) (fews_get hp hf2.2)
      have li : i < ps.length := (List.getElem?_eq_some_iff.mp hp).1
      have dl := ds_len false ps
      let env : En := [.val (.tup (.str s :: Fm.ds false ps)), .val (pl (i :: l)), .val x, .val (.int ((i : Int) + 1))]
      have E1 : fIfS (fTB (fB gEq (fVar 1) (fTup fNil))) (fRet (fMv (fVar 2))) fNext [.val (.tup (.str s :: Fm.ds false ps)), .val (pl (i :: l)), .val x, .un] μ = .nxt [.val (.tup (.str s :: Fm.ds false ps)), .val (pl (i :: l)), .val x, .un] μ := by
        simp [fIfS, fTB, fB, fVar, fTup, fNil, gEq, rd, pl, D.scal2, D.plain, D.plains, pl_plain, D.dep, D.deps, pl_dep, D.eq, D.eqs, Res.bind, Res.to, fNext]
      have E2 : fSet 3 (fMv (fB gAdd (fB gIx (fVar 1) (fC (.int 0))) (fC (.int 1)))) [.val (.tup (.str s :: Fm.ds false ps)), .val (pl (i :: l)), .val x, .un] μ = .nxt env μ := by
        simp [env, fSet, fMv, fB, fVar, fC, gIx, gAdd, pl, sq, SqD.items, L2.atI, L2.ixN, Res.bind, Res.to]
      have q1 : ((i : Int) + 1) = ((i + 1 : Nat) : Int) := by omega
      have q2 : ((i : Int) + 1 + 1) = ((i + 2 : Nat) : Int) := by omega
      have E3 : fSl gSl (fVar 0) fNoO (fSomeO (fVar 3)) env μ = .ok (.val (.tup (.str s :: (Fm.ds false ps).take i))) μ :=
        Gn.fSlTo (ds := .str s :: Fm.ds false ps) (n := i + 1) rfl rfl
      have E4 : fB gIx (fVar 0) (fVar 3) env μ = .ok (.val (p.d false)) μ := by
        have a := atI_succ (D.str s) (Fm.ds false ps) i
        rw [ds_get, hp] at a
        simp [env, fB, fVar, gIx, sq, SqD.items, Res.bind, a]
      have E5 : fSl gSl (fVar 1) (fSomeO (fC (.int 1))) fNoO env μ = .ok (.val (pl l)) μ :=
        Gn.fSlFrom (ds := (i :: l).map fun (n : Nat) => D.int (n : Int)) (n := 1) rfl rfl
      have E6 : fFn 3 (run k 20) (fCons (fB gIx (fVar 0) (fVar 3)) (fCons (fSl gSl (fVar 1) (fSomeO (fC (.int 1))) fNoO) (fCons (fVar 2) fNil))) env μ = .ok (.val (putD p l x)) μ := by
        have a : fVar 2 env μ = .ok (.val x) μ := rfl
        simp [fFn, fCons, fNil, E4, E5, a, Res.bind, ih]
      have E7 : fSl gSl (fVar 0) (fSomeO (fB gAdd (fVar 3) (fC (.int 1)))) fNoO env μ = .ok (.val (.tup ((Fm.ds false ps).drop (i + 1)))) μ :=
        Gn.fSlFrom (ds := .str s :: Fm.ds false ps) (n := i + 2) rfl rfl
      have E8 : fB gAdd (fSl gSl (fVar 0) fNoO (fSomeO (fVar 3))) (fTup (fCons (fFn 3 (run k 20) (fCons (fB gIx (fVar 0) (fVar 3)) (fCons (fSl gSl (fVar 1) (fSomeO (fC (.int 1))) fNoO) (fCons (fVar 2) fNil)))) fNil)) env μ = .ok (.val (.tup ((.str s :: (Fm.ds false ps).take i) ++ [putD p l x]))) μ := by
        have t : fTup (fCons (fFn 3 (run k 20) (fCons (fB gIx (fVar 0) (fVar 3)) (fCons (fSl gSl (fVar 1) (fSomeO (fC (.int 1))) fNoO) (fCons (fVar 2) fNil)))) fNil) env μ = .ok (.val (.tup [putD p l x])) μ := by
          simp [fTup, fCons, fNil, E6, Res.bind, LIM]
        rw [fB_eq gAdd E3 t]
        exact gAdd_tup (by simp only [List.length_cons, List.length_take, List.length_nil, LIM]; omega)
      have E9 := fB_eq gAdd E8 E7
      rw [gAdd_tup (by simp only [List.length_cons, List.length_append, List.length_take, List.length_drop, List.length_nil, LIM]; omega)] at E9
      have pd : putD (.nd s ps) (i :: l) x = .tup (.str s :: ((Fm.ds false ps).take i ++ putD p l x :: (Fm.ds false ps).drop (i + 1))) := by simp only [putD, hp]
      rw [e, pd]
      show runOf 4 (b20 (run k)) [.tup (.str s :: Fm.ds false ps), pl (i :: l), x] μ = _
      unfold runOf
      show (match b20 (run k) [.val (.tup (.str s :: Fm.ds false ps)), .val (pl (i :: l)), .val x, .un] μ with | .ret d μ => Res.ok d μ | .nxt _ μ => .ok (.val .non) μ | .exc e _ μ => .exc e μ | _ => .bad) = _
      unfold b20
      rw [fSeq_nxt E1, fSeq_nxt E2]
      unfold fRet fMv
      rw [E9]
      simp [Res.bind, Res.to]
/-- a form put into a form -/
def putF : Fm → List Nat → Fm → Fm
  | _, [], x => x
  | .op, _ :: _, x => x
  | .nd s ps, i :: l, x => match ps[i]? with
    | some p => .nd s (ps.take i ++ putF p l x :: ps.drop (i + 1))
    | none => x
theorem ds_app (b : Bool) : ∀ ps qs : List Fm, Fm.ds b (ps ++ qs) = Fm.ds b ps ++ Fm.ds b qs
  | [], _ => rfl
  | p :: ps, qs => by simp [Fm.ds, ds_app b ps qs]
theorem ds_take (b : Bool) : ∀ (n : Nat) (ps : List Fm), Fm.ds b (ps.take n) = (Fm.ds b ps).take n
  | 0, _ => rfl
  | n + 1, [] => rfl
  | n + 1, p :: ps => by simp [Fm.ds, ds_take b n ps]
theorem ds_drop (b : Bool) : ∀ (n : Nat) (ps : List Fm), Fm.ds b (ps.drop n) = (Fm.ds b ps).drop n
  | 0, _ => rfl
  | n + 1, [] => rfl
  | n + 1, p :: ps => by simp [Fm.ds, ds_drop b n ps]
theorem put_d : ∀ (l : List Nat) (f g x : Fm), pt l f = some g → putD f l (x.d false) = (putF f l x).d false
  | [], f, _, x, _ => by simp [putD, putF]
  | i :: l, .op, _, x, h => by simp [pt] at h
  | i :: l, .nd s ps, g, x, h => by
    simp only [pt] at h
    cases hp : ps[i]? with
    | none => rw [hp] at h; simp at h
    | some p =>
      rw [hp] at h
      have ih := put_d l p g x h
      simp only [putD, putF, hp, Fm.d, sqd, ds_app, Fm.ds, ds_take, ds_drop, ih]
end Kx

set_option linter.all false
set_option maxRecDepth 100000
set_option maxHeartbeats 4000000
namespace Kx
open PySem Q
local macro_rules | `(tactic| simp_arith [$as,*] $[$l]?) => `(tactic| simp [runOf, envOf, fSeq, fIfS, fTB, fB, gEq, gNe, gGt, gLt, gLe, gGe, gIB, fVar, fC, gIx, sq, Res.bind, Res.to, L2.atI, L2.ixN, fSet, fMv, fMo, fSetIx, fRet, gMod, gDiv, gI, gAdd, gMul, fCall, fConsr, fNilr, gInt, getL, putL, SqD.items, fOr, fAnd, fOrV, fAndV, fNotV, fNot, fTT, tru, fFn, fCons, fNil, fNext, gLen, rd, fYes, wipeE, Tg.bind, Tg.binds, Res.nx, fZp, srcD, zipD, fSl, gSl, fSomeO, fNoO, fTup, fLst, fLc, List.replicate, D.scal2, D.eq, D.eqs, D.plain, D.plains, D.dep, D.deps, LIM, n1_ne, n1_beq, n1_bne, n1_pos, cut1, srcD_sq, fIf, gTuple, gList, fRaise, gIsN, gNotN, RV.isN, fIsi, isi, subTy, tyGo, tyName, fAny, $as,*] $[$l]?)
def names : List Str := ["a", "b", "f", "g", "k", "end", "mark", "abcdefgh", "c", "d", "e", "h", "m", "n", "p", "q", "r", "s", "t", "l"]
mutual
/-- names that are used, at most three parts -/
def Fm.fine : Fm → Bool
  | .op => true
  | .nd s ps => decide (s ∈ names) && (decide (ps.length ≤ 3) && Fm.fines ps)
def Fm.fines : List Fm → Bool
  | [] => true
  | p :: ps => Fm.fine p && Fm.fines ps
end
theorem fine_nd {s : Str} {ps : List Fm} (h : (Fm.nd s ps).fine = true) : s ∈ names ∧ ps.length ≤ 3 ∧ Fm.fines ps = true := by
  simpa [Fm.fine] using h
theorem fines_cons {p : Fm} {ps : List Fm} (h : Fm.fines (p :: ps) = true) : p.fine = true ∧ Fm.fines ps = true := by
  simpa [Fm.fines] using h
theorem fines_mem : ∀ {ps : List Fm} {p : Fm}, Fm.fines ps = true → p ∈ ps → p.fine = true
  | q :: ps, p, h, m => by
    rcases List.mem_cons.mp m with e | m
    · rw [e]; exact (fines_cons h).1
    · exact fines_mem (fines_cons h).2 m
theorem fines_of : ∀ {ps : List Fm}, (∀ p ∈ ps, p.fine = true) → Fm.fines ps = true
  | [], _ => rfl
  | p :: ps, h => by
    simp only [Fm.fines, Bool.and_eq_true]
    exact ⟨h p List.mem_cons_self, fines_of fun q hq => h q (List.mem_cons_of_mem _ hq)⟩
theorem dps_of {n : Nat} : ∀ {ps : List Fm}, (∀ p ∈ ps, p.dp ≤ n) → Fm.dps ps ≤ n
  | [], _ => by simp [Fm.dps]
  | p :: ps, h => by
    have h1 := h p List.mem_cons_self
    have h2 : Fm.dps ps ≤ n := dps_of fun q hq => h q (List.mem_cons_of_mem _ hq)
    simp only [Fm.dps]; omega
theorem names_ok : ∀ s ∈ names, PyData.strOk s = true := by decide +kernel
mutual
theorem fine_ok : ∀ f : Fm, f.fine = true → f.ok = true
  | .op, _ => rfl
  | .nd s ps, h => by
    have h := fine_nd h
    simp only [Fm.ok, Bool.and_eq_true]
    exact ⟨names_ok s h.1, fines_oks ps h.2.2⟩
theorem fines_oks : ∀ ps : List Fm, Fm.fines ps = true → Fm.oks ps = true
  | [], _ => rfl
  | p :: ps, h => by
    have h := fines_cons h
    simp only [Fm.oks, Bool.and_eq_true]
    exact ⟨fine_ok p h.1, fines_oks ps h.2⟩
end
mutual
theorem fine_few : ∀ f : Fm, f.fine = true → f.few = true
  | .op, _ => rfl
  | .nd s ps, h => by
    have h := fine_nd h
    simp only [Fm.few, Bool.and_eq_true, decide_eq_true_eq]
    exact ⟨by omega, fines_fews ps h.2.2⟩
theorem fines_fews : ∀ ps : List Fm, Fm.fines ps = true → Fm.fews ps = true
  | [], _ => rfl
  | p :: ps, h => by
    have h := fines_cons h
    simp only [Fm.fews, Bool.and_eq_true]
    exact ⟨fine_few p h.1, fines_fews ps h.2⟩
end
mutual
theorem fine_sz : ∀ f : Fm, f.fine = true → f.sz ≤ 4 ^ f.dp
  | .op, _ => by simp [Fm.sz, Fm.dp]
  | .nd s ps, h => by
    have h := fine_nd h
    have q := fines_szs ps h.2.2
    have p0 : 1 ≤ 4 ^ Fm.dps ps := Nat.pow_pos (by omega)
    have q2 : ps.length * 4 ^ Fm.dps ps ≤ 3 * 4 ^ Fm.dps ps := Nat.mul_le_mul_right _ h.2.1
    simp only [Fm.sz, Fm.dp, Nat.pow_succ]
    omega
theorem fines_szs : ∀ ps : List Fm, Fm.fines ps = true → Fm.szs ps ≤ ps.length * 4 ^ Fm.dps ps
  | [], _ => by simp [Fm.szs]
  | p :: ps, h => by
    have h := fines_cons h
    have q1 := fine_sz p h.1
    have q2 := fines_szs ps h.2
    have m1 : 4 ^ p.dp ≤ 4 ^ (max p.dp (Fm.dps ps)) := Nat.pow_le_pow_right (by omega) (Nat.le_max_left _ _)
    have m2 : 4 ^ Fm.dps ps ≤ 4 ^ (max p.dp (Fm.dps ps)) := Nat.pow_le_pow_right (by omega) (Nat.le_max_right _ _)
    have m3 : ps.length * 4 ^ Fm.dps ps ≤ ps.length * 4 ^ (max p.dp (Fm.dps ps)) := Nat.mul_le_mul_left _ m2
    simp only [Fm.szs, Fm.dps, List.length_cons, Nat.add_mul, Nat.one_mul]
    omega
end
theorem fine_sz9 {f : Fm} (h : f.fine = true) (hd : f.dp ≤ 9) : f.sz ≤ 1000000 := by
  have h1 := fine_sz f h
  have h2 : 4 ^ f.dp ≤ 4 ^ 9 := Nat.pow_le_pow_right (by omega) hd
  have h3 : 4 ^ 9 = 262144 := by decide
  omega
/-! ### putting in -/
theorem pt_dp : ∀ (l : List Nat) (f g : Fm), pt l f = some g → l.length + g.dp ≤ f.dp
  | [], f, g, h => by simp only [pt, Option.some.injEq] at h; rw [h]; simp
  | i :: l, .op, g, h => by simp [pt] at h
  | i :: l, .nd s ps, g, h => by
    simp only [pt] at h
    cases hp : ps[i]? with
    | none => rw [hp] at h; simp at h
    | some p =>
      rw [hp] at h
      have := pt_dp l p g h
      have := dps_get hp
      simp only [List.length_cons, Fm.dp]; omega
theorem putF_ok : ∀ (l : List Nat) (f g x : Fm), pt l f = some g → f.fine = true → x.fine = true → (putF f l x).fine = true ∧ (putF f l x).dp ≤ max f.dp (l.length + x.dp)
  | [], f, g, x, _, _, hx => by
    simp only [putF, List.length_nil, Nat.zero_add]
    exact ⟨hx, by omega⟩
  | i :: l, .op, g, x, h, _, _ => by simp [pt] at h
  | i :: l, .nd s ps, g, x, h, hf, hx => by
    simp only [pt] at h
    have hf := fine_nd hf
    cases hp : ps[i]? with
    | none => rw [hp] at h; simp at h
    | some p =>
      rw [hp] at h
      have pm := List.mem_of_getElem? hp
      have ih := putF_ok l p g x h (fines_mem hf.2.2 pm) hx
      have li : i < ps.length := (List.getElem?_eq_some_iff.mp hp).1
      have dq : ∀ q ∈ ps, q.dp ≤ Fm.dps ps := fun q hq => dps_mem hq
      have memq : ∀ q ∈ ps.take i ++ putF p l x :: ps.drop (i + 1), q = putF p l x ∨ q ∈ ps := fun q hq => by
        rcases List.mem_append.mp hq with h | h
        · exact .inr (List.mem_of_mem_take h)
        · rcases List.mem_cons.mp h with h | h
          · exact .inl h
          · exact .inr (List.mem_of_mem_drop h)
      simp only [putF, hp]
      constructor
      · simp only [Fm.fine, Bool.and_eq_true, decide_eq_true_eq]
        refine ⟨hf.1, by simp only [List.length_append, List.length_cons, List.length_take, List.length_drop]; omega, fines_of fun q hq => ?_⟩
        rcases memq q hq with e | h
        · rw [e]; exact ih.1
        · exact fines_mem hf.2.2 h
      · have : Fm.dps (ps.take i ++ putF p l x :: ps.drop (i + 1)) ≤ max (Fm.dps ps) (l.length + x.dp) := dps_of fun q hq => by
          rcases memq q hq with e | h
          · rw [e]
            have := dq p pm
            omega
          · have := dq q h
            omega
        simp only [Fm.dp, List.length_cons]; omega
/-! ### is_form -/
theorem name_ok (k : Nat) (s : Str) (h : s ∈ names) (μ : Mu) : run (k+1) 0 [.str s] μ = .ok (.val (.bl true)) μ := by
  have e : run (k+1) 0 = runOf 2 (b0 (run k)) := rfl
  rw [e]
  simp only [names, List.mem_cons, List.not_mem_nil, or_false] at h
  rcases h with rfl | rfl | rfl | rfl | rfl | rfl | rfl | rfl | rfl | rfl | rfl | rfl | rfl | rfl | rfl | rfl | rfl | rfl | rfl | rfl <;> rfl
theorem brow_loop (r : RunF) (x : EV) (μ : Mu) : ∀ (xs : List (D × Bool)) (acc : List D), (∀ p ∈ xs, r [p.1] μ = .ok (.val (.bl p.2)) μ) →
    lcLoop (.nm 1) fYes (fFn 1 r (fCons (fVar 1) fNil)) [x, .un] (xs.map (·.1)) μ acc = .ok (acc ++ (xs.map (·.2)).map .bl) μ
  | [], acc, _ => by simp [lcLoop]
  | p :: xs, acc, h => by
    have h1 := h p List.mem_cons_self
    have ih := brow_loop r x μ xs (acc ++ [.bl p.2]) fun p hp => h p (List.mem_cons_of_mem _ hp)
    simp_arith [lcLoop, h1] at ih ⊢
    simpa using ih
theorem isf_nd (k : Nat) (s : Str) (xs : List (D × Bool)) (μ : Mu) (hs : s ∈ names) (hl : xs.length ≤ 3) (h : ∀ p ∈ xs, run (k+1) 2 [p.1] μ = .ok (.val (.bl p.2)) μ) :
    run (k+2) 2 [.tup (.str s :: xs.map (·.1))] μ = .ok (.val (.bl ((xs.map (·.2)).all id))) μ := by
  have e : run (k+2) 2 = runOf 2 (b2 (run (k+1))) := rfl
  rw [e]
  have u := name_ok k s hs μ
  have L := brow_loop (run (k+1) 2) (.val (.tup (.str s :: xs.map (·.1)))) μ xs [] h
  have w := bls_map (xs.map (·.2))
  have z : ¬ (4 : Int) < (xs.length : Int) + 1 := by omega
  have z2 : xs.length ≤ 16777216 := by omega
  simp_arith [] at L w
  simp_arith [b2, u, L, z, z2, gAll, gBls, w]
theorem isf_ok : ∀ (k : Nat) (f : Fm) (μ : Mu), f.dp + 2 ≤ k → f.fine = true → run k 2 [f.d false] μ = .ok (.val (.bl true)) μ
  | 0, _, _, h, _ => by omega
  | k + 1, .op, μ, _, _ => by
    have e : run (k+1) 2 = runOf 2 (b2 (run k)) := rfl
    rw [e]
    simp_arith [b2, Fm.d, sqd]
  | k + 1, .nd s ps, μ, hk, hf => by
    obtain ⟨k, rfl⟩ : ∃ j, k = j + 1 := ⟨k - 1, by simp only [Fm.dp] at hk; omega⟩
    have hf := fine_nd hf
    simp only [Fm.dp] at hk
    have q := isf_nd k s (ps.map fun p => (p.d false, true)) μ hf.1 (by rw [List.length_map]; exact hf.2.1) fun x hx => by
      obtain ⟨p, hp, rfl⟩ := List.mem_map.mp hx
      have := dps_mem hp
      exact isf_ok (k+1) p μ (by omega) (fines_mem hf.2.2 hp)
    have e1 : (ps.map fun p => (p.d false, true)).map (·.1) = Fm.ds false ps := by rw [List.map_map]; exact ds_map false ps
    have e2 : ((ps.map fun p => (p.d false, true)).map (·.2)).all id = true := by simp
    rw [e1, e2] at q
    exact q
theorem isf_put : ∀ (l : List Nat) (k : Nat) (f g : Fm) (x : D) (b : Bool) (μ : Mu), pt l f = some g → f.dp + 6 ≤ k → f.fine = true → (∀ j, 4 ≤ j → run j 2 [x] μ = .ok (.val (.bl b)) μ) → run k 2 [putD f l x] μ = .ok (.val (.bl b)) μ
  | [], k, f, g, x, b, μ, _, hk, _, hx => by
    simp only [putD]
    exact hx k (by omega)
  | i :: l, k, .op, g, x, b, μ, h, _, _, _ => by simp [pt] at h
  | i :: l, k, .nd s ps, g, x, b, μ, h, hk, hf, hx => by
    obtain ⟨k, rfl⟩ : ∃ j, k = j + 2 := ⟨k - 2, by omega⟩
    simp only [pt] at h
    have hf := fine_nd hf
    simp only [Fm.dp] at hk
    cases hp : ps[i]? with
    | none => rw [hp] at h; simp at h
    | some p =>
      rw [hp] at h
      have pm := List.mem_of_getElem? hp
      have pd := dps_mem pm
      have li : i < ps.length := (List.getElem?_eq_some_iff.mp hp).1
      have ih := isf_put l (k+1) p g x b μ h (by omega) (fines_mem hf.2.2 pm) hx
      have q := isf_nd k s ((ps.take i).map (fun p => (p.d false, true)) ++ (putD p l x, b) :: (ps.drop (i + 1)).map (fun p => (p.d false, true))) μ hf.1 (by simp only [List.length_append, List.length_cons, List.length_map, List.length_take, List.length_drop]; omega) fun y hy => by
        have go : ∀ q ∈ ps, run (k+1) 2 [q.d false] μ = .ok (.val (.bl true)) μ := fun q hq => by
          have := dps_mem hq
          exact isf_ok (k+1) q μ (by omega) (fines_mem hf.2.2 hq)
        rcases List.mem_append.mp hy with hy | hy
        · obtain ⟨q, hq, rfl⟩ := List.mem_map.mp hy
          exact go q (List.mem_of_mem_take hq)
        · rcases List.mem_cons.mp hy with rfl | hy
          · exact ih
          · obtain ⟨q, hq, rfl⟩ := List.mem_map.mp hy
            exact go q (List.mem_of_mem_drop hq)
      have m1 : ∀ qs : List Fm, (qs.map fun p => (p.d false, true)).map (·.1) = Fm.ds false qs := fun qs => by rw [List.map_map]; exact ds_map false qs
      have m2 : ∀ qs : List Fm, ((qs.map fun p => (p.d false, true)).map (·.2)).all id = true := fun qs => by simp
      rw [List.map_append, List.map_cons, m1, m1, ds_take, ds_drop, List.map_append, List.map_cons, List.all_append, List.all_cons, m2, m2] at q
      simp only [putD, hp]
      rw [Bool.true_and, Bool.and_true] at q
      exact q
end Kx

set_option linter.all false
set_option maxRecDepth 100000
set_option maxHeartbeats 4000000
namespace Kx
open PySem Q
local macro_rules | `(tactic| simp_arith [$as,*] $[$l]?) => `(tactic| simp [runOf, envOf, fSeq, fIfS, fTB, fB, gEq, gNe, gGt, gLt, gLe, gGe, gIB, fVar, fC, gIx, sq, Res.bind, Res.to, L2.atI, L2.ixN, fSet, fMv, fMo, fSetIx, fRet, gMod, gDiv, gI, gAdd, gMul, fCall, fConsr, fNilr, gInt, getL, putL, SqD.items, fOr, fAnd, fOrV, fAndV, fNotV, fNot, fTT, tru, fFn, fCons, fNil, fNext, gLen, rd, fYes, wipeE, Tg.bind, Tg.binds, Res.nx, fZp, srcD, zipD, fSl, gSl, fSomeO, fNoO, fTup, fLst, fLc, List.replicate, D.scal2, D.eq, D.eqs, D.plain, D.plains, D.dep, D.deps, LIM, n1_ne, n1_beq, n1_bne, n1_pos, cut1, srcD_sq, fIf, gTuple, gList, fRaise, gIsN, gNotN, RV.isN, fIsi, isi, subTy, tyGo, tyName, fAny, $as,*] $[$l]?)
/-! ### what the law compares -/
structure Nw (d : D) : Prop where
  n : nice d = true
  w : wide d = true
  d : D.dep d ≤ 12
mutual
theorem nice_d (b : Bool) : ∀ f : Fm, nice (f.d b) = true
  | .op => by cases b <;> rfl
  | .nd s ps => by
    have := nice_ds b ps
    cases b <;> simp [Fm.d, sqd, nice, nices, this]
theorem nice_ds (b : Bool) : ∀ ps : List Fm, nices (Fm.ds b ps) = true
  | [] => rfl
  | p :: ps => by simp [Fm.ds, nices, nice_d b p, nice_ds b ps]
end
mutual
theorem wide_d (b : Bool) : ∀ f : Fm, f.few = true → wide (f.d b) = true
  | .op, _ => by cases b <;> rfl
  | .nd s ps, h => by
    have h : ps.length ≤ 1000 ∧ Fm.fews ps = true := by simpa [Fm.few] using h
    have q := wide_ds b ps h.2
    have z : ps.length + 1 ≤ 16777216 := by omega
    cases b <;> simp [Fm.d, sqd, wide, wides, q, ds_len, z]
theorem wide_ds (b : Bool) : ∀ ps : List Fm, Fm.fews ps = true → wides (Fm.ds b ps) = true
  | [], _ => rfl
  | p :: ps, h => by
    have h : p.few = true ∧ Fm.fews ps = true := by simpa [Fm.fews] using h
    simp [Fm.ds, wides, wide_d b p h.1, wide_ds b ps h.2]
end
mutual
theorem dep_d (b : Bool) : ∀ f : Fm, D.dep (f.d b) ≤ f.dp + 1
  | .op => by cases b <;> simp [Fm.d, sqd, D.dep, D.deps]
  | .nd s ps => by
    have := dep_ds b ps
    cases b <;> (simp only [Fm.d, sqd, D.dep, D.deps, Fm.dp]; omega)
theorem dep_ds (b : Bool) : ∀ ps : List Fm, D.deps (Fm.ds b ps) ≤ Fm.dps ps + 1
  | [] => by simp [Fm.ds, D.deps]
  | p :: ps => by
    have h1 := dep_d b p
    have h2 := dep_ds b ps
    simp only [Fm.ds, D.deps, Fm.dps]; omega
end
theorem nw_d (b : Bool) (f : Fm) (h : f.fine = true) (hd : f.dp ≤ 10) : Nw (f.d b) := ⟨nice_d b f, wide_d b f (fine_few f h), by have := dep_d b f; omega⟩
theorem nw_bl (b : Bool) : Nw (.bl b) := ⟨rfl, rfl, by simp [D.dep]⟩
theorem nw_non : Nw .non := ⟨rfl, rfl, by simp [D.dep]⟩
theorem nw_oF (o : Option Fm) (h : ∀ f, o = some f → f.fine = true ∧ f.dp ≤ 10) : Nw (oF o) := by
  cases o with
  | none => exact nw_non
  | some f => exact nw_d false f (h f rfl).1 (h f rfl).2
theorem nices_ints : ∀ l : List Nat, nices (l.map fun (n : Nat) => D.int (n : Int)) = true
  | [] => rfl
  | n :: l => by simp [nices, nice, nices_ints l]
theorem wides_ints : ∀ l : List Nat, wides (l.map fun (n : Nat) => D.int (n : Int)) = true
  | [] => rfl
  | n :: l => by simp [wides, wide, wides_ints l]
theorem nw_oP (o : Option (List Nat)) (h : ∀ l, o = some l → l.length ≤ 1000) : Nw (oP o) := by
  cases o with
  | none => exact nw_non
  | some l =>
    have := h l rfl
    exact ⟨by simp [oP, pl, nice, nices_ints], by simp [oP, pl, wide, wides_ints]; omega, by show D.dep (pl l) ≤ 12; rw [pl_d1]; omega⟩
theorem nw_lst : ∀ {ds : List D}, (∀ d ∈ ds, Nw d) → nices ds = true ∧ wides ds = true ∧ D.deps ds ≤ 12
  | [], _ => ⟨rfl, rfl, by simp [D.deps]⟩
  | d :: ds, h => by
    have h1 := h d List.mem_cons_self
    obtain ⟨a, b, c⟩ := nw_lst fun e he => h e (List.mem_cons_of_mem _ he)
    have := h1.d
    exact ⟨by simp [nices, h1.n, a], by simp [wides, h1.w, b], by simp only [D.deps]; omega⟩
theorem same_lst (k : Nat) (ds : List D) (μ : Mu) (h : ∀ d ∈ ds, Nw d) (hl : ds.length ≤ 1000) (hk : 14 ≤ k) : run k 17 [.lst ds, .lst ds] μ = .ok (.val (.bl true)) μ := by
  obtain ⟨a, b, c⟩ := nw_lst h
  refine same_ok k (.lst ds) μ ?_ ?_ ?_
  · simp only [D.dep]; omega
  · simpa [nice] using a
  · have z : ds.length ≤ 16777216 := by omega
    simp [wide, z, b]
/-! ### fine forms under joins and meets -/
mutual
theorem joi_fine : ∀ f g : Fm, f.fine = true → g.fine = true → (joi f g).fine = true
  | .op, g, _, hg => by simp only [joi]; exact hg
  | .nd s ps, .op, hf, _ => by simp only [joi]; exact hf
  | .nd s ps, .nd t qs, hf, hg => by
    have hf := fine_nd hf
    have hg := fine_nd hg
    have l := joiA_len ps qs
    simp only [joi, Fm.fine, Bool.and_eq_true, decide_eq_true_eq]
    exact ⟨hf.1, by omega, joiA_fine ps qs hf.2.2 hg.2.2⟩
theorem joiA_fine : ∀ ps qs : List Fm, Fm.fines ps = true → Fm.fines qs = true → Fm.fines (joiA ps qs) = true
  | [], _, _, _ => by simp [joiA, Fm.fines]
  | _ :: _, [], _, _ => by simp [joiA, Fm.fines]
  | p :: ps, q :: qs, hp, hq => by
    have hp := fines_cons hp
    have hq := fines_cons hq
    simp only [joiA, Fm.fines, Bool.and_eq_true]
    exact ⟨joi_fine p q hp.1 hq.1, joiA_fine ps qs hp.2 hq.2⟩
end
mutual
theorem mee_fine : ∀ f g : Fm, f.fine = true → (mee f g).fine = true
  | .op, g, _ => by simp [mee, Fm.fine]
  | .nd s ps, .op, _ => by simp [mee, Fm.fine]
  | .nd s ps, .nd t qs, hf => by
    have hf := fine_nd hf
    have l := meeA_len ps qs
    simp only [mee]
    split
    · rfl
    · simp only [Fm.fine, Bool.and_eq_true, decide_eq_true_eq]
      exact ⟨hf.1, by omega, meeA_fine ps qs hf.2.2⟩
theorem meeA_fine : ∀ ps qs : List Fm, Fm.fines ps = true → Fm.fines (meeA ps qs) = true
  | [], _, _ => by simp [meeA, Fm.fines]
  | _ :: _, [], _ => by simp [meeA, Fm.fines]
  | p :: ps, q :: qs, hp => by
    have hp := fines_cons hp
    simp only [meeA, Fm.fines, Bool.and_eq_true]
    exact ⟨mee_fine p q hp.1, meeA_fine ps qs hp.2⟩
end
mutual
theorem mee_dp : ∀ f g : Fm, (mee f g).dp ≤ f.dp
  | .op, g => by simp [mee, Fm.dp]
  | .nd s ps, .op => by simp [mee, Fm.dp]
  | .nd s ps, .nd t qs => by
    have := meeA_dp ps qs
    simp only [mee]
    split <;> simp only [Fm.dp] <;> omega
theorem meeA_dp : ∀ ps qs : List Fm, Fm.dps (meeA ps qs) ≤ Fm.dps ps
  | [], _ => by simp [meeA, Fm.dps]
  | _ :: _, [] => by simp [meeA, Fm.dps]
  | p :: ps, q :: qs => by
    have h1 := mee_dp p q
    have h2 := meeA_dp ps qs
    simp only [meeA, Fm.dps]; omega
end
/-! ### two forms -/
theorem d_ne (b : Bool) (f : Fm) : ∀ n, f.d b ≠ .loc n := fun n z => by cases f <;> cases b <;> simp [Fm.d, sqd] at z
theorem eq_d (f g : Fm) (hf : f.fine = true) (hg : g.fine = true) (df : f.dp ≤ 10) (env : En) (μ : Mu) : gEq env (.val (f.d false)) (.val (g.d false)) μ = .ok (.val (.bl (D.eq (f.d false) (g.d false)))) μ :=
  gEq_plain (plain_d false f (fine_ok f hf)) (plain_d false g (fine_ok g hg)) (by have := dep_d false f; omega) (d_ne false f) (d_ne false g)
theorem ask_yes (k : Nat) (S : List (List Nat × Sg)) (x : List Nat × Sg) (e0 e1 e2 e4 e5 e7 e8 e9 e10 e11 e12 : EV) (μ : Mu) (hS : okT S) (hx : PyData.strOk x.2.1 = true) :
    fTB (fB gEq (fFn 2 (run (k+1) 25) (fCons (fVar 3) (fCons (fB gIx (fVar 6) (fC (.int 0))) fNil))) (fB gIx (fVar 6) (fC (.int 1)))) [e0, e1, e2, .val (.lst (S.map enD)), e4, e5, .val (enD x), e7, e8, e9, e10, e11, e12] μ = .ok (decide (look S x.1 = some x.2)) μ := by
  have h1 := look_ok k S x.1 μ
  have h2 := gEq_plain (a := oS (look S x.1)) (b := sgD x.2) (env := [e0, e1, e2, .val (.lst (S.map enD)), e4, e5, .val (enD x), e7, e8, e9, e10, e11, e12]) (μ := μ) (oS_plain (look_plain hS x.1)) (sg_plain hx) (by have := oS_dep (look S x.1); omega) (oS_ne _) (sg_ne _)
  rw [oS_eq] at h2
  simp [fTB, fB, fFn, fCons, fVar, fC, fNil, Res.bind, en_at0, en_at1, h1, h2]
theorem both_lc (k : Nat) (f g : Fm) (e0 e1 e4 e5 e7 e8 e9 e10 e11 e12 : EV) (μ : Mu) (hf : f.ok = true) (hg : g.ok = true) (hs : f.sz ≤ 1000000) :
    fLc (fAny (fVar 2)) (.nm 6) (fTB (fB gEq (fFn 2 (run (k+1) 25) (fCons (fVar 3) (fCons (fB gIx (fVar 6) (fC (.int 0))) fNil))) (fB gIx (fVar 6) (fC (.int 1))))) (fVar 6) [6] [e0, e1, .val (.lst ((mp f).map enD)), .val (.lst ((mp g).map enD)), e4, e5, .un, e7, e8, e9, e10, e11, e12] μ = .ok (.val (.lst ((both f g).map enD))) μ := by
  have L := flt_loop 6 (fTB (fB gEq (fFn 2 (run (k+1) 25) (fCons (fVar 3) (fCons (fB gIx (fVar 6) (fC (.int 0))) fNil))) (fB gIx (fVar 6) (fC (.int 1))))) [e0, e1, .val (.lst ((mp f).map enD)), .val (.lst ((mp g).map enD)), e4, e5, .un, e7, e8, e9, e10, e11, e12] (fun x => decide (look (mp g) x.1 = some x.2)) μ (by simp) (mp f) [] fun x hx => ask_yes k (mp g) x e0 e1 _ e4 e5 e7 e8 e9 e10 e11 e12 μ (okT_mp g hg) (okT_mp f hf x hx)
  exact fLc_eq (fi := fAny (fVar 2)) (by simp [fAny, fVar]) (by rw [List.length_map, LIM]; have := mp_len f; omega) L
/-- the law's lists, with and without a join -/
def pairL (f g : Fm) : List D := [.bl (lies f g), .bl (lies g f), .bl (agr f g), .bl (agr f g), oP (odd f g), oP (odd f g), oF (if agr f g then some (joi f g) else none), oF (if agr f g then some (joi f g) else none), (mee f g).d false, (mee f g).d false, (mee f g).d false, .bl true, .bl true, .bl true, .bl true]
  ++ ((if agr f g then [.bl true, .bl true, .bl (lies f g), .bl (lies g f)] else []) ++ [.bl (lies f g), .bl (lies g f)])
theorem pairL_nw (f g : Fm) (hf : f.fine = true) (hg : g.fine = true) (df : f.dp ≤ 9) (dg : g.dp ≤ 9) : ∀ d ∈ pairL f g, Nw d := by
  have ho : Nw (oP (odd f g)) := nw_oP _ fun l h => by have := odd_len f g l h; omega
  have hj : Nw (oF (if agr f g then some (joi f g) else none)) := nw_oF _ fun e h => by
    split at h
    · cases h; exact ⟨joi_fine f g hf hg, by have := joi_dp f g; omega⟩
    · cases h
  have hm : Nw ((mee f g).d false) := nw_d false _ (mee_fine f g hf) (by have := mee_dp f g; omega)
  intro d hd
  simp only [pairL] at hd
  rcases List.mem_append.mp hd with hd | hd
  · simp only [List.mem_cons, List.not_mem_nil, or_false] at hd
    rcases hd with rfl | rfl | rfl | rfl | rfl | rfl | rfl | rfl | rfl | rfl | rfl | rfl | rfl | rfl | rfl <;> first | exact nw_bl _ | exact ho | exact hj | exact hm
  · rcases List.mem_append.mp hd with hd | hd
    · split at hd
      · simp only [List.mem_cons, List.not_mem_nil, or_false] at hd
        rcases hd with rfl | rfl | rfl | rfl <;> exact nw_bl _
      · cases hd
    · simp only [List.mem_cons, List.not_mem_nil, or_false] at hd
      rcases hd with rfl | rfl <;> exact nw_bl _
end Kx

set_option linter.all false
set_option maxRecDepth 100000
set_option maxHeartbeats 4000000
namespace Kx
open PySem Q
/-! ### drawn forms -/
theorem take1 (k : Nat) : Gn.TakeS (run (k+1) 12) := Gn.takeS
theorem of1 (k : Nat) (ds : List D) (h0 : 0 < ds.length) (hl : ds.length ≤ 1000000) (N : Nat) (hN : N ≤ 1000000000000) (μ : Mu) (h : Gn.Bx N μ) : ∃ (d : D) (μ' : Mu), d ∈ ds ∧ run (k+2) 14 [.loc 0, .lst ds] μ = .ok (.val d) μ' ∧ Gn.Bx (N+1) μ' := Gn.of_ok (take1 k) ds h0 hl N hN μ h
abbrev leafB (rt rl : RunF) : FS := (fSeq (fSet 11 (fMv (fB gAdd (fC (.int 1)) (fFn 2 rt (fCons (fVar 0) (fCons (fB gSub (fVar 8) (fB gSub (fB gSub (fVar 7) (fVar 10)) (fC (.int 1)))) fNil))))))
    (fSeq (fApp 9 (fFn 4 rl (fCons (fVar 0) (fCons (fVar 1) (fCons (fVar 11) (fCons (fB gSub (fVar 3) (fC (.int 1))) fNil))))))
    (fSet 8 (fMv (fB gSub (fVar 8) (fVar 11))))))
theorem leaf_loop {rt rl : RunF} (ht : Gn.TakeS rt) (S : D) (hS : ∀ n, S ≠ .loc n) (fuel deep : Nat) (T n : Nat) (e4 e5 e6 : EV)
    (hl : ∀ (fu N : Nat) (μ : Mu), fu ≤ 1000 → N + T ≤ 1000000000000 → Gn.Bx N μ → ∃ (f : Fm) (μ' : Mu), rl [.loc 0, S, .int (fu : Int), .int ((deep : Int) - 1)] μ = .ok (.val (f.d false)) μ' ∧ f.fine = true ∧ f.dp ≤ n ∧ Gn.Bx (N + T) μ') (many : Nat) :
    ∀ (m i left : Nat) (ps : List Fm) (e10 e11 : EV) (N : Nat) (μ : Mu), i + m = many → m ≤ left → left ≤ 1000 → many ≤ 100 → ps.length ≤ i → Fm.fines ps = true → Fm.dps ps ≤ n → N + m * (T + 1) ≤ 1000000000000 → Gn.Bx N μ →
    ∃ (qs : List Fm) (a8 a10 a11 : EV) (μ' : Mu), loop (.nm 10) (leafB rt rl) (rangeD (i : Int) m) [.val (.loc 0), .val S, .val (.int (fuel : Int)), .val (.int (deep : Int)), e4, e5, e6, .val (.int (many : Int)), .val (.int (left : Int)), .own (Fm.ds false ps), e10, e11] μ = .nxt [.val (.loc 0), .val S, .val (.int (fuel : Int)), .val (.int (deep : Int)), e4, e5, e6, .val (.int (many : Int)), a8, .own (Fm.ds false qs), a10, a11] μ' ∧ qs.length = ps.length + m ∧ Fm.fines qs = true ∧ Fm.dps qs ≤ n ∧ Gn.Bx (N + m * (T + 1)) μ'
  | 0, i, left, ps, e10, e11, N, μ, _, _, _, _, _, hf, hd, _, hb => ⟨ps, _, e10, e11, μ, by simp [rangeD, loop]; rfl, rfl, hf, hd, by simpa using hb⟩
  | m + 1, i, left, ps, e10, e11, N, μ, hi, h1, h2, h3, hp, hf, hd, hN, hb => by
    have mul : (m + 1) * (T + 1) = m * (T + 1) + (T + 1) := by rw [Nat.add_mul, Nat.one_mul]
    rw [mul] at hN
    obtain ⟨r, μ1, et, hr, hb1⟩ := ht ((left : Int) - ((many : Int) - (i : Int) - 1)) N μ (by omega) (by omega) (by omega) hb
    obtain ⟨f, μ2, el, ff, fd, hb2⟩ := hl (1 + r) (N + 1) μ1 (by omega) (by omega) hb1
    obtain ⟨qs, a8, a10, a11, μ', L, q1, q2, q3, q4⟩ := leaf_loop ht S hS fuel deep T n e4 e5 e6 hl many m (i + 1) (left - (1 + r)) (ps ++ [f]) (.val (.int (i : Int))) (.val (.int ((1 + r : Nat) : Int))) (N + 1 + T) μ2 (by omega) (by omega) (by omega) h3 (by simp only [List.length_append, List.length_singleton]; omega)
      (fines_of fun q hq => by
        rcases List.mem_append.mp hq with hq | hq
        · exact fines_mem hf hq
        · rw [List.mem_singleton.mp hq]; exact ff)
      (dps_of fun q hq => by
        rcases List.mem_append.mp hq with hq | hq
        · have := dps_mem hq; omega
        · rw [List.mem_singleton.mp hq]; exact fd) (by omega) hb2
    refine ⟨qs, a8, a10, a11, μ', ?_, by rw [q1, List.length_append, List.length_singleton]; omega, q2, q3, by rw [mul, show N + (m * (T + 1) + (T + 1)) = N + 1 + T + m * (T + 1) by omega]; exact q4⟩
    have en : ((i + 1 : Nat) : Int) = (i : Int) + 1 := by omega
    have es : ((left - (1 + r) : Nat) : Int) = (left : Int) - (1 + (r : Int)) := by omega
    have e1r : ((1 + r : Nat) : Int) = 1 + (r : Int) := by omega
    rw [en, es, e1r] at L
    rw [e1r] at el
    have E1 : fSet 11 (fMv (fB gAdd (fC (.int 1)) (fFn 2 rt (fCons (fVar 0) (fCons (fB gSub (fVar 8) (fB gSub (fB gSub (fVar 7) (fVar 10)) (fC (.int 1)))) fNil))))) [.val (.loc 0), .val S, .val (.int (fuel : Int)), .val (.int (deep : Int)), e4, e5, e6, .val (.int (many : Int)), .val (.int (left : Int)), .own (Fm.ds false ps), .val (.int (i : Int)), e11] μ = .nxt [.val (.loc 0), .val S, .val (.int (fuel : Int)), .val (.int (deep : Int)), e4, e5, e6, .val (.int (many : Int)), .val (.int (left : Int)), .own (Fm.ds false ps), .val (.int (i : Int)), .val (.int (1 + (r : Int)))] μ1 := by
      simp [fSet, fMv, fB, fC, fFn, fCons, fVar, fNil, gSub, gI0, gAdd, Res.bind, Res.to, et]
    have z : ps.length < LIM := by unfold LIM; omega
    have E2 : fApp 9 (fFn 4 rl (fCons (fVar 0) (fCons (fVar 1) (fCons (fVar 11) (fCons (fB gSub (fVar 3) (fC (.int 1))) fNil))))) [.val (.loc 0), .val S, .val (.int (fuel : Int)), .val (.int (deep : Int)), e4, e5, e6, .val (.int (many : Int)), .val (.int (left : Int)), .own (Fm.ds false ps), .val (.int (i : Int)), .val (.int (1 + (r : Int)))] μ1 = .nxt [.val (.loc 0), .val S, .val (.int (fuel : Int)), .val (.int (deep : Int)), e4, e5, e6, .val (.int (many : Int)), .val (.int (left : Int)), .own (Fm.ds false (ps ++ [f])), .val (.int (i : Int)), .val (.int (1 + (r : Int)))] μ2 := by
      rw [ds_app]
      simp [fApp, getL, putL, fFn, fCons, fVar, fNil, fB, fC, gSub, gI0, Res.bind, Res.to, el, ds_len, z, Fm.ds]
    have E3 : fSet 8 (fMv (fB gSub (fVar 8) (fVar 11))) [.val (.loc 0), .val S, .val (.int (fuel : Int)), .val (.int (deep : Int)), e4, e5, e6, .val (.int (many : Int)), .val (.int (left : Int)), .own (Fm.ds false (ps ++ [f])), .val (.int (i : Int)), .val (.int (1 + (r : Int)))] μ2 = .nxt [.val (.loc 0), .val S, .val (.int (fuel : Int)), .val (.int (deep : Int)), e4, e5, e6, .val (.int (many : Int)), .val (.int ((left : Int) - (1 + (r : Int)))), .own (Fm.ds false (ps ++ [f])), .val (.int (i : Int)), .val (.int (1 + (r : Int)))] μ2 := by
      simp [fSet, fMv, fB, fVar, gSub, gI0, Res.bind, Res.to]
    have st : leafB rt rl [.val (.loc 0), .val S, .val (.int (fuel : Int)), .val (.int (deep : Int)), e4, e5, e6, .val (.int (many : Int)), .val (.int (left : Int)), .own (Fm.ds false ps), .val (.int (i : Int)), e11] μ = .nxt [.val (.loc 0), .val S, .val (.int (fuel : Int)), .val (.int (deep : Int)), e4, e5, e6, .val (.int (many : Int)), .val (.int ((left : Int) - (1 + (r : Int)))), .own (Fm.ds false (ps ++ [f])), .val (.int (i : Int)), .val (.int (1 + (r : Int)))] μ2 := by
      unfold leafB
      rw [fSeq_nxt E1, fSeq_nxt E2, E3]
    simp [rangeD, loop, Tg.bind, st]
    exact L
/-- signs of drawn forms -/
def okS (S : List Sg) : Prop := S.length ≤ 1000 ∧ ∀ s ∈ S, s.1 ∈ names ∧ s.2 ≤ 3
theorem plain_sgs : ∀ {S : List Sg}, (∀ s ∈ S, s.1 ∈ names) → D.plains (S.map sgD) = true
  | [], _ => rfl
  | s :: S, h => by
    have h1 := names_ok s.1 (h s List.mem_cons_self)
    have ih := plain_sgs fun t ht => h t (List.mem_cons_of_mem _ ht)
    simp [D.plains, sgD, D.plain, h1, ih]
theorem sg_at1 (s : Sg) (env : En) (μ : Mu) : gIx env (.val (sgD s)) (.val (.int 1)) μ = .ok (.val (.int (s.2 : Int))) μ := by
  simp [gIx, sgD, sq, SqD.items, L2.atI, L2.ixN]
theorem deps_sgs : ∀ S : List Sg, D.deps (S.map sgD) ≤ 1
  | [] => by simp [D.deps]
  | s :: S => by
    have := deps_sgs S
    have h : D.dep (sgD s) = 1 := by simp [sgD, D.dep, D.deps]
    simp only [List.map_cons, D.deps, h]; omega
abbrev leafF (rt ro rl : RunF) : FS := (fSeq (fSet 4 (fMv (fLc (fAny (fVar 1)) (.nm 5) (fAnd (fTB (fB gLt (fB gIx (fVar 5) (fC (.int 1))) (fVar 2))) (fOr (fTB (fB gGt (fVar 3) (fC (.int 0)))) (fTB (fB gEq (fB gIx (fVar 5) (fC (.int 1))) (fC (.int 0)))))) (fVar 5) [5])))
    (fSeq (fIfS (fOr (fTB (fB gEq (fFn 2 rt (fCons (fVar 0) (fCons (fC (.int 5)) fNil))) (fC (.int 0)))) (fTB (fB gEq (fVar 4) (fLst fNil)))) (fRet (fMv (fTup fNil))) fNext)
    (fSeq (fAsg (.tp [(.nm 6), (.nm 7)]) (fFn 2 ro (fCons (fVar 0) (fCons (fVar 4) fNil))))
    (fSeq (fPar 8 9 (fMv (fB gSub (fVar 2) (fC (.int 1)))) (fMo (fLst fNil)))
    (fSeq (fFor (fRng1 (fVar 7)) (.nm 10) (leafB rt rl))
    (fRet (fMv (fB gAdd (fTup (fCons (fVar 6) fNil)) (fCall gTuple (fConsr (fVar 9) fNilr))))))))))
theorem leaf_step (S : List Sg) (hS : okS S) (deep : Nat)
    (ih : 0 < deep → ∀ (k fu N : Nat) (μ : Mu), deep + 2 ≤ k → fu ≤ 1000 → N + 8 ^ deep ≤ 1000000000000 → Gn.Bx N μ → ∃ (f : Fm) (μ' : Mu), run k 21 [.loc 0, .lst (S.map sgD), .int (fu : Int), .int ((deep : Int) - 1)] μ = .ok (.val (f.d false)) μ' ∧ f.fine = true ∧ f.dp ≤ deep ∧ Gn.Bx (N + 8 ^ deep) μ')
    (k fuel N : Nat) (μ : Mu) (hk : deep + 3 ≤ k) (hfu : fuel ≤ 1000) (hN : N + 8 ^ (deep + 1) ≤ 1000000000000) (hb : Gn.Bx N μ) :
    ∃ (f : Fm) (μ' : Mu), run k 21 [.loc 0, .lst (S.map sgD), .int (fuel : Int), .int (deep : Int)] μ = .ok (.val (f.d false)) μ' ∧ f.fine = true ∧ f.dp ≤ deep + 1 ∧ Gn.Bx (N + 8 ^ (deep + 1)) μ' := by
  obtain ⟨k, rfl⟩ : ∃ j, k = j + 3 := ⟨k - 3, by omega⟩
  have p1 : 1 ≤ 8 ^ deep := Nat.pow_pos (by omega)
  have p8 : 8 ^ (deep + 1) = 8 * 8 ^ deep := by rw [Nat.pow_succ, Nat.mul_comm]
  rw [p8] at hN ⊢
  let c : Sg → Bool := fun s => decide (s.2 < fuel) && (decide (0 < deep) || decide (s.2 = 0))
  let sm := S.filter c
  have smem : ∀ s ∈ sm, s ∈ S ∧ c s = true := fun s hs => List.mem_filter.mp hs
  have sml : sm.length ≤ 1000 := Nat.le_trans (List.length_filter_le _ _) hS.1
  have smp : D.plains (sm.map sgD) = true := plain_sgs fun s hs => (hS.2 s (smem s hs).1).1
  have E1 : fSet 4 (fMv (fLc (fAny (fVar 1)) (.nm 5) (fAnd (fTB (fB gLt (fB gIx (fVar 5) (fC (.int 1))) (fVar 2))) (fOr (fTB (fB gGt (fVar 3) (fC (.int 0)))) (fTB (fB gEq (fB gIx (fVar 5) (fC (.int 1))) (fC (.int 0)))))) (fVar 5) [5])) [.val (.loc 0), .val (.lst (S.map sgD)), .val (.int (fuel : Int)), .val (.int (deep : Int)), .un, .un, .un, .un, .un, .un, .un, .un] μ = .nxt [.val (.loc 0), .val (.lst (S.map sgD)), .val (.int (fuel : Int)), .val (.int (deep : Int)), .val (.lst (sm.map sgD)), .un, .un, .un, .un, .un, .un, .un] μ := by
    have L := Gn.flt 5 (fAnd (fTB (fB gLt (fB gIx (fVar 5) (fC (.int 1))) (fVar 2))) (fOr (fTB (fB gGt (fVar 3) (fC (.int 0)))) (fTB (fB gEq (fB gIx (fVar 5) (fC (.int 1))) (fC (.int 0)))))) [.val (.loc 0), .val (.lst (S.map sgD)), .val (.int (fuel : Int)), .val (.int (deep : Int)), .un, .un, .un, .un, .un, .un, .un, .un] sgD c μ (by simp) S [] fun s hs => by
      by_cases q1 : s.2 < fuel
      · by_cases q2 : 0 < deep
        · simp [fAnd, fOr, fTB, fB, fVar, fC, sg_at1, gLt, gGt, gIB, Res.bind, c, q1, q2]
        · by_cases q3 : s.2 = 0
          · have q4 : 0 < fuel := by omega
            simp [fAnd, fOr, fTB, fB, fVar, fC, sg_at1, gLt, gGt, gIB, Res.bind, c, q2, Gn.gEq_int, q3, q4]
          · simp [fAnd, fOr, fTB, fB, fVar, fC, sg_at1, gLt, gGt, gIB, Res.bind, c, q1, q2, Gn.gEq_int, q3]
      · simp [fAnd, fOr, fTB, fB, fVar, fC, sg_at1, gLt, gGt, gIB, Res.bind, c, q1]
    have C := fLc_eq (fi := fAny (fVar 1)) (t := .nm 5) (vs := [5]) (env := [.val (.loc 0), .val (.lst (S.map sgD)), .val (.int (fuel : Int)), .val (.int (deep : Int)), .un, .un, .un, .un, .un, .un, .un, .un]) (μ := μ) (by simp [fAny, fVar]) (by rw [List.length_map, LIM]; have := hS.1; omega) L
    exact Gn.fSetE C
  obtain ⟨r, μ1, et, hr, hb1⟩ := take1 (k+1) 5 N μ (by omega) (by omega) (by omega) hb
  let env : En := [.val (.loc 0), .val (.lst (S.map sgD)), .val (.int (fuel : Int)), .val (.int (deep : Int)), .val (.lst (sm.map sgD)), .un, .un, .un, .un, .un, .un, .un]
  have T1 : fTB (fB gEq (fFn 2 (run (k+2) 12) (fCons (fVar 0) (fCons (fC (.int 5)) fNil))) (fC (.int 0))) env μ = .ok (decide ((r : Int) = 0)) μ1 := by
    simp [env, fTB, fB, fFn, fCons, fVar, fC, fNil, Res.bind, et, Gn.gEq_int]
  have T2 : fTB (fB gEq (fVar 4) (fLst fNil)) env μ1 = .ok sm.isEmpty μ1 := by
    have q := gEq_plain (a := .lst (sm.map sgD)) (b := .lst []) (env := env) (μ := μ1) (by simpa [D.plain] using smp) rfl (by simp [D.dep, D.deps]) (fun n z => by cases z) (fun n z => by cases z)
    have v : fVar 4 env μ1 = .ok (.val (.lst (sm.map sgD))) μ1 := rfl
    have w : fLst fNil env μ1 = .ok (.val (.lst [])) μ1 := by simp [fLst, fNil, Res.bind]
    have g := fB_eq gEq v w
    rw [q] at g
    simp only [D.eq, eqs_nil, List.isEmpty_map] at g
    exact Gn.fTB_eq g
  have T := Gn.fOr_eq (fb := fTB (fB gEq (fVar 4) (fLst fNil))) T1
  rw [T2] at T
  have e : run (k+3) 21 = runOf 12 (leafF (run (k+2) 12) (run (k+2) 14) (run (k+2) 21)) := rfl
  rw [e]
  have he : envOf 12 [.loc 0, .lst (S.map sgD), .int (fuel : Int), .int (deep : Int)] = [.val (.loc 0), .val (.lst (S.map sgD)), .val (.int (fuel : Int)), .val (.int (deep : Int)), .un, .un, .un, .un, .un, .un, .un, .un] := rfl
  by_cases hc : (r : Int) = 0 ∨ sm = []
  · refine ⟨.op, μ1, Gn.runOf_ret _ he ?_, rfl, by simp [Fm.dp], hb1.up (by omega)⟩
    have T' : fOr (fTB (fB gEq (fFn 2 (run (k+2) 12) (fCons (fVar 0) (fCons (fC (.int 5)) fNil))) (fC (.int 0)))) (fTB (fB gEq (fVar 4) (fLst fNil))) env μ = .ok true μ1 := by
      rw [T]
      rcases hc with h | h
      · simp [h]
      · rw [h]; simp
    unfold leafF
    rw [fSeq_nxt E1]
    unfold fSeq
    rw [Gn.fIf_t T']
    rfl
  · have hc : ¬ (r : Int) = 0 ∧ ¬ sm = [] := by
      constructor
      · intro h; exact hc (.inl h)
      · intro h; exact hc (.inr h)
    have T' : fIfS (fOr (fTB (fB gEq (fFn 2 (run (k+2) 12) (fCons (fVar 0) (fCons (fC (.int 5)) fNil))) (fC (.int 0)))) (fTB (fB gEq (fVar 4) (fLst fNil)))) (fRet (fMv (fTup fNil))) fNext env μ = .nxt env μ1 := by
      have q : fOr (fTB (fB gEq (fFn 2 (run (k+2) 12) (fCons (fVar 0) (fCons (fC (.int 5)) fNil))) (fC (.int 0)))) (fTB (fB gEq (fVar 4) (fLst fNil))) env μ = .ok false μ1 := by
        rw [T, decide_eq_false hc.1]
        cases h : sm with
        | nil => exact absurd h hc.2
        | cons _ _ => simp
      rw [Gn.fIf_f q]
      rfl
    have l0 : 0 < (sm.map sgD).length := by
      rw [List.length_map]; exact List.length_pos_iff.mpr hc.2
    obtain ⟨d, μ2, hd, eo, hb2⟩ := of1 k (sm.map sgD) l0 (by rw [List.length_map]; omega) (N + 1) (by omega) μ1 hb1
    obtain ⟨s, hs, rfl⟩ := List.mem_map.mp hd
    obtain ⟨hsS, hcs⟩ := smem s hs
    have hn := hS.2 s hsS
    have hcs : s.2 < fuel ∧ (0 < deep ∨ s.2 = 0) := by simpa [c] using hcs
    have E3 : fAsg (.tp [(.nm 6), (.nm 7)]) (fFn 2 (run (k+2) 14) (fCons (fVar 0) (fCons (fVar 4) fNil))) env μ1 = .nxt [.val (.loc 0), .val (.lst (S.map sgD)), .val (.int (fuel : Int)), .val (.int (deep : Int)), .val (.lst (sm.map sgD)), .un, .val (.str s.1), .val (.int (s.2 : Int)), .un, .un, .un, .un] μ2 := by
      simp [env, fAsg, fFn, fCons, fVar, fNil, Res.bind, Res.to, eo, sgD, Tg.bind, Tg.binds]
    have ef : (fuel : Int) - 1 = ((fuel - 1 : Nat) : Int) := by omega
    have E4 : fPar 8 9 (fMv (fB gSub (fVar 2) (fC (.int 1)))) (fMo (fLst fNil)) [.val (.loc 0), .val (.lst (S.map sgD)), .val (.int (fuel : Int)), .val (.int (deep : Int)), .val (.lst (sm.map sgD)), .un, .val (.str s.1), .val (.int (s.2 : Int)), .un, .un, .un, .un] μ2 = .nxt [.val (.loc 0), .val (.lst (S.map sgD)), .val (.int (fuel : Int)), .val (.int (deep : Int)), .val (.lst (sm.map sgD)), .un, .val (.str s.1), .val (.int (s.2 : Int)), .val (.int ((fuel - 1 : Nat) : Int)), .own (Fm.ds false []), .un, .un] μ2 := by
      simp [fPar, fMv, fMo, fB, fVar, fC, gSub, gI0, fLst, fNil, Res.bind, Res.to, ef, Fm.ds]
    obtain ⟨qs, a8, a10, a11, μ', L, q1, q2, q3, q4⟩ : ∃ (qs : List Fm) (a8 a10 a11 : EV) (μ' : Mu), loop (.nm 10) (leafB (run (k+2) 12) (run (k+2) 21)) (rangeD 0 s.2) [.val (.loc 0), .val (.lst (S.map sgD)), .val (.int (fuel : Int)), .val (.int (deep : Int)), .val (.lst (sm.map sgD)), .un, .val (.str s.1), .val (.int (s.2 : Int)), .val (.int ((fuel - 1 : Nat) : Int)), .own (Fm.ds false []), .un, .un] μ2 = .nxt [.val (.loc 0), .val (.lst (S.map sgD)), .val (.int (fuel : Int)), .val (.int (deep : Int)), .val (.lst (sm.map sgD)), .un, .val (.str s.1), .val (.int (s.2 : Int)), a8, .own (Fm.ds false qs), a10, a11] μ' ∧ qs.length = s.2 ∧ Fm.fines qs = true ∧ Fm.dps qs ≤ deep ∧ Gn.Bx (N + 8 * 8 ^ deep) μ' := by
      by_cases hz : s.2 = 0
      · refine ⟨[], .val (.int ((fuel - 1 : Nat) : Int)), .un, .un, μ2, ?_, by simp [hz], rfl, by simp [Fm.dps], hb2.up (by omega)⟩
        rw [hz]; rfl
      · have hd0 : 0 < deep := by omega
        have mb : s.2 * (8 ^ deep + 1) ≤ 3 * (8 ^ deep + 1) := Nat.mul_le_mul_right _ hn.2
        obtain ⟨qs, a8, a10, a11, μ', L, q1, q2, q3, q4⟩ := leaf_loop (take1 (k+1)) (.lst (S.map sgD)) (fun n z => by cases z) fuel deep (8 ^ deep) deep (.val (.lst (sm.map sgD))) .un (.val (.str s.1)) (fun fu N μ h1 h2 h3 => ih hd0 (k+2) fu N μ (by omega) h1 h2 h3) s.2 s.2 0 (fuel - 1) [] .un .un (N + 2) μ2 (by omega) (by omega) (by omega) (by omega) (by simp) rfl (by simp [Fm.dps]) (by omega) hb2
        exact ⟨qs, a8, a10, a11, μ', L, by simpa using q1, q2, q3, q4.up (by omega)⟩
    have E5 := Gn.fFor_nxt (Gn.fRng1_eq (fa := fVar 7) (env := [.val (.loc 0), .val (.lst (S.map sgD)), .val (.int (fuel : Int)), .val (.int (deep : Int)), .val (.lst (sm.map sgD)), .un, .val (.str s.1), .val (.int (s.2 : Int)), .val (.int ((fuel - 1 : Nat) : Int)), .own (Fm.ds false []), .un, .un]) (μ := μ2) (n := s.2) rfl (by omega)) L
    refine ⟨.nd s.1 qs, μ', Gn.runOf_ret _ he ?_, ?_, by simp only [Fm.dp]; omega, q4⟩
    · unfold leafF
      rw [fSeq_nxt E1, fSeq_nxt T', fSeq_nxt E3, fSeq_nxt E4, fSeq_nxt E5]
      have z : 1 + qs.length ≤ LIM := by unfold LIM; omega
      simp [fRet, fMv, fB, fTup, fCons, fVar, fNil, fCall, fConsr, fNilr, gTuple, sq, SqD.items, Res.bind, Res.to, gAdd, ds_len, z, Fm.d, sqd, LIM]
      have z2 : 1 + qs.length ≤ 16777216 := z
      simp [z2]
    · simp only [Fm.fine, Bool.and_eq_true, decide_eq_true_eq]
      exact ⟨hn.1, by omega, q2⟩
theorem leaf_ok (S : List Sg) (hS : okS S) : ∀ (deep k fuel N : Nat) (μ : Mu), deep + 3 ≤ k → fuel ≤ 1000 → N + 8 ^ (deep + 1) ≤ 1000000000000 → Gn.Bx N μ →
    ∃ (f : Fm) (μ' : Mu), run k 21 [.loc 0, .lst (S.map sgD), .int (fuel : Int), .int (deep : Int)] μ = .ok (.val (f.d false)) μ' ∧ f.fine = true ∧ f.dp ≤ deep + 1 ∧ Gn.Bx (N + 8 ^ (deep + 1)) μ' := by
  intro deep
  induction deep with
  | zero => exact leaf_step S hS 0 (fun h => absurd h (by omega))
  | succ d ih =>
    refine leaf_step S hS (d + 1) fun _ k fu N μ hk hfu hN hb => ?_
    obtain ⟨f, μ', e, q⟩ := ih k fu N μ (by omega) hfu hN hb
    have en : (((d + 1 : Nat) : Int) - 1) = (d : Int) := by omega
    rw [en]
    exact ⟨f, μ', e, q⟩
end Kx

set_option linter.all false
set_option maxRecDepth 100000
set_option maxHeartbeats 4000000
namespace Kx
open PySem Q
/-! ### a drawn form that is not open -/
theorem great_loop {rl : RunF} (S : D) (hS : ∀ n, S ≠ .loc n) (fuel deep share T n : Nat) (e4 e5 e6 e7 : EV) (hs : share ≤ 1000)
    (hl : ∀ (fu N : Nat) (μ : Mu), fu ≤ 1000 → N + T ≤ 1000000000000 → Gn.Bx N μ → ∃ (f : Fm) (μ' : Mu), rl [.loc 0, S, .int (fu : Int), .int ((deep : Int) - 1)] μ = .ok (.val (f.d false)) μ' ∧ f.fine = true ∧ f.dp ≤ n ∧ Gn.Bx (N + T) μ') :
    ∀ (m : Nat) (i : Int) (ps : List Fm) (N : Nat) (μ : Mu), Fm.fines ps = true → Fm.dps ps ≤ n → N + m * T ≤ 1000000000000 → Gn.Bx N μ →
    ∃ (qs : List Fm) (μ' : Mu), lcLoop (.nm 9) fYes (fFn 4 rl (fCons (fVar 0) (fCons (fVar 1) (fCons (fVar 8) (fCons (fB gSub (fVar 3) (fC (.int 1))) fNil))))) [.val (.loc 0), .val S, .val (.int (fuel : Int)), .val (.int (deep : Int)), e4, e5, e6, e7, .val (.int (share : Int)), .un] (rangeD i m) μ (Fm.ds false ps) = .ok (Fm.ds false qs) μ' ∧ qs.length = ps.length + m ∧ Fm.fines qs = true ∧ Fm.dps qs ≤ n ∧ Gn.Bx (N + m * T) μ'
  | 0, i, ps, N, μ, hf, hd, _, hb => ⟨ps, μ, by simp [rangeD, lcLoop], rfl, hf, hd, by simpa using hb⟩
  | m + 1, i, ps, N, μ, hf, hd, hN, hb => by
    have mul : (m + 1) * T = m * T + T := by rw [Nat.add_mul, Nat.one_mul]
    rw [mul] at hN
    obtain ⟨f, μ2, el, ff, fd, hb2⟩ := hl share N μ hs (by omega) hb
    obtain ⟨qs, μ', L, q1, q2, q3, q4⟩ := great_loop S hS fuel deep share T n e4 e5 e6 e7 hs hl m (i + 1) (ps ++ [f]) (N + T) μ2
      (fines_of fun q hq => by
        rcases List.mem_append.mp hq with hq | hq
        · exact fines_mem hf hq
        · rw [List.mem_singleton.mp hq]; exact ff)
      (dps_of fun q hq => by
        rcases List.mem_append.mp hq with hq | hq
        · have := dps_mem hq; omega
        · rw [List.mem_singleton.mp hq]; exact fd) (by omega) hb2
    refine ⟨qs, μ', ?_, by rw [q1, List.length_append, List.length_singleton]; omega, q2, q3, by rw [mul, show N + (m * T + T) = N + T + m * T by omega]; exact q4⟩
    rw [ds_app] at L
    simp [Fm.ds] at L
    simp only [rangeD]
    rw [Gn.lc_yes (x := f.d false) (μ1 := μ2) rfl (by simp [fFn, fCons, fVar, fNil, fB, fC, gSub, gI0, Res.bind, el])]
    exact L
abbrev greatF (ro rl : RunF) : FS := (fSeq (fSet 4 (fMv (fOrN (fLc (fAny (fVar 1)) (.nm 5) (fTB (fCh (cmpI .Lt) (cmpI .Lt) (fC (.int 0)) (fB gIx (fVar 5) (fC (.int 1))) (fVar 2))) (fVar 5) [5]) (fLst (fCons (fTup (fCons (fC (.str "g")) (fCons (fC (.int 1)) fNil))) fNil)))))
    (fSeq (fAsg (.tp [(.nm 6), (.nm 7)]) (fFn 2 ro (fCons (fVar 0) (fCons (fVar 4) fNil))))
    (fSeq (fSet 8 (fMv (fCall gMax2 (fConsr (fC (.int 1)) (fConsr (fB gDiv (fB gSub (fVar 2) (fC (.int 1))) (fVar 7)) fNilr)))))
    (fRet (fMv (fB gAdd (fTup (fCons (fVar 6) fNil)) (fCall gTuple (fConsr (fLc (fRng1 (fVar 7)) (.nm 9) fYes (fFn 4 rl (fCons (fVar 0) (fCons (fVar 1) (fCons (fVar 8) (fCons (fB gSub (fVar 3) (fC (.int 1))) fNil))))) [9]) fNilr))))))))
theorem great_ok (S : List Sg) (hS : okS S) (d k fuel N : Nat) (μ : Mu) (hk : d + 4 ≤ k) (hf0 : 1 ≤ fuel) (hfu : fuel ≤ 1000) (hN : N + 4 * 8 ^ (d + 1) ≤ 1000000000000) (hb : Gn.Bx N μ) :
    ∃ (f : Fm) (μ' : Mu), run k 22 [.loc 0, .lst (S.map sgD), .int (fuel : Int), .int ((d + 1 : Nat) : Int)] μ = .ok (.val (f.d false)) μ' ∧ f.fine = true ∧ f.dp ≤ d + 2 ∧ Gn.Bx (N + 4 * 8 ^ (d + 1)) μ' := by
  obtain ⟨k, rfl⟩ : ∃ j, k = j + 4 := ⟨k - 4, by omega⟩
  have p1 : 1 ≤ 8 ^ (d + 1) := Nat.pow_pos (by omega)
  let c : Sg → Bool := fun s => decide (0 < s.2) && decide (s.2 < fuel)
  let sm := S.filter c
  let L : List Sg := if sm.isEmpty then [((("g" : Str), 1) : Sg)] else sm
  have hL : 0 < L.length ∧ L.length ≤ 1000 ∧ ∀ s ∈ L, s.1 ∈ names ∧ 0 < s.2 ∧ s.2 ≤ 3 := by
    have sml : sm.length ≤ 1000 := Nat.le_trans (List.length_filter_le _ _) hS.1
    cases h : sm with
    | nil =>
      have : L = [((("g" : Str), 1) : Sg)] := by simp [L, h]
      rw [this]
      refine ⟨by simp, by simp, fun s hs => ?_⟩
      rw [List.mem_singleton.mp hs]
      exact ⟨by decide +kernel, by simp, by simp⟩
    | cons x xs =>
      have : L = sm := by simp [L, h]
      rw [this]
      refine ⟨by rw [h]; simp, sml, fun s hs => ?_⟩
      obtain ⟨h1, h2⟩ := List.mem_filter.mp hs
      have h2 : 0 < s.2 ∧ s.2 < fuel := by simpa [c] using h2
      exact ⟨(hS.2 s h1).1, h2.1, (hS.2 s h1).2⟩
  have E1 : fSet 4 (fMv (fOrN (fLc (fAny (fVar 1)) (.nm 5) (fTB (fCh (cmpI .Lt) (cmpI .Lt) (fC (.int 0)) (fB gIx (fVar 5) (fC (.int 1))) (fVar 2))) (fVar 5) [5]) (fLst (fCons (fTup (fCons (fC (.str "g")) (fCons (fC (.int 1)) fNil))) fNil)))) [.val (.loc 0), .val (.lst (S.map sgD)), .val (.int (fuel : Int)), .val (.int ((d + 1 : Nat) : Int)), .un, .un, .un, .un, .un, .un] μ = .nxt [.val (.loc 0), .val (.lst (S.map sgD)), .val (.int (fuel : Int)), .val (.int ((d + 1 : Nat) : Int)), .val (.lst (L.map sgD)), .un, .un, .un, .un, .un] μ := by
    have F := Gn.flt 5 (fTB (fCh (cmpI .Lt) (cmpI .Lt) (fC (.int 0)) (fB gIx (fVar 5) (fC (.int 1))) (fVar 2))) [.val (.loc 0), .val (.lst (S.map sgD)), .val (.int (fuel : Int)), .val (.int ((d + 1 : Nat) : Int)), .un, .un, .un, .un, .un, .un] sgD c μ (by simp) S [] fun s hs => by
      by_cases q1 : 0 < s.2
      · simp [fTB, fCh, fB, fVar, fC, sg_at1, cmpI, Res.bind, c, q1]
      · simp [fTB, fCh, fB, fVar, fC, sg_at1, cmpI, Res.bind, c, q1]
    have C := fLc_eq (fi := fAny (fVar 1)) (t := .nm 5) (vs := [5]) (env := [.val (.loc 0), .val (.lst (S.map sgD)), .val (.int (fuel : Int)), .val (.int ((d + 1 : Nat) : Int)), .un, .un, .un, .un, .un, .un]) (μ := μ) (by simp [fAny, fVar]) (by rw [List.length_map, LIM]; have := hS.1; omega) F
    refine Gn.fSetE (d := .lst (L.map sgD)) ?_
    unfold fOrN
    rw [C]
    cases h : sm with
    | nil =>
      have e : L = [((("g" : Str), 1) : Sg)] := by simp [L, h]
      rw [e]
      have h' : S.filter c = [] := h
      simp [h', Res.bind, fLst, fCons, fTup, fC, fNil, LIM, sgD]
    | cons x xs =>
      have e : L = sm := by simp [L, h]
      rw [e]
      have h' : S.filter c = x :: xs := h
      rw [h]
      simp [h', Res.bind]
  obtain ⟨y, μ1, hy, eo, hb1⟩ := of1 (k+1) (L.map sgD) (by rw [List.length_map]; exact hL.1) (by rw [List.length_map]; omega) N (by omega) μ hb
  obtain ⟨s, hs, rfl⟩ := List.mem_map.mp hy
  obtain ⟨s1, s2, s3⟩ := hL.2.2 s hs
  have E2 : fAsg (.tp [(.nm 6), (.nm 7)]) (fFn 2 (run (k+3) 14) (fCons (fVar 0) (fCons (fVar 4) fNil))) [.val (.loc 0), .val (.lst (S.map sgD)), .val (.int (fuel : Int)), .val (.int ((d + 1 : Nat) : Int)), .val (.lst (L.map sgD)), .un, .un, .un, .un, .un] μ = .nxt [.val (.loc 0), .val (.lst (S.map sgD)), .val (.int (fuel : Int)), .val (.int ((d + 1 : Nat) : Int)), .val (.lst (L.map sgD)), .un, .val (.str s.1), .val (.int (s.2 : Int)), .un, .un] μ1 := by
    simp [fAsg, fFn, fCons, fVar, fNil, Res.bind, Res.to, eo, sgD, Tg.bind, Tg.binds]
  obtain ⟨sh, hsh, E3⟩ : ∃ sh : Nat, sh ≤ 1000 ∧ fSet 8 (fMv (fCall gMax2 (fConsr (fC (.int 1)) (fConsr (fB gDiv (fB gSub (fVar 2) (fC (.int 1))) (fVar 7)) fNilr)))) [.val (.loc 0), .val (.lst (S.map sgD)), .val (.int (fuel : Int)), .val (.int ((d + 1 : Nat) : Int)), .val (.lst (L.map sgD)), .un, .val (.str s.1), .val (.int (s.2 : Int)), .un, .un] μ1 = .nxt [.val (.loc 0), .val (.lst (S.map sgD)), .val (.int (fuel : Int)), .val (.int ((d + 1 : Nat) : Int)), .val (.lst (L.map sgD)), .un, .val (.str s.1), .val (.int (s.2 : Int)), .val (.int (sh : Int)), .un] μ1 := by
    have ef : (fuel : Int) - 1 = ((fuel - 1 : Nat) : Int) := by omega
    have dv : ((fuel - 1 : Nat) : Int) / (s.2 : Int) = (((fuel - 1) / s.2 : Nat) : Int) := (Int.natCast_ediv _ _).symm
    have dl : (fuel - 1) / s.2 ≤ fuel - 1 := Nat.div_le_self _ _
    have D1 : fB gDiv (fB gSub (fVar 2) (fC (.int 1))) (fVar 7) [.val (.loc 0), .val (.lst (S.map sgD)), .val (.int (fuel : Int)), .val (.int ((d + 1 : Nat) : Int)), .val (.lst (L.map sgD)), .un, .val (.str s.1), .val (.int (s.2 : Int)), .un, .un] μ1 = .ok (.val (.int (((fuel - 1) / s.2 : Nat) : Int))) μ1 := by
      rw [← dv, ← ef]
      exact Gn.fDivE (x := (fuel : Int) - 1) (y := (s.2 : Int)) rfl rfl (by omega) (by omega)
    refine ⟨max 1 ((fuel - 1) / s.2), by omega, Gn.fSetE (d := .int ((max 1 ((fuel - 1) / s.2) : Nat) : Int)) ?_⟩
    generalize (fuel - 1) / s.2 = q at D1
    have g : (if (q : Int) > 1 then (q : Int) else 1) = ((max 1 q : Nat) : Int) := by split <;> omega
    rw [← g]
    simp only [fCall, fConsr, fNilr, fC, D1, Res.bind, gMax2, gI2]
  obtain ⟨qs, μ', Lp, q1, q2, q3, q4⟩ := great_loop (rl := run (k+3) 21) (.lst (S.map sgD)) (fun n z => by cases z) fuel (d + 1) sh (8 ^ (d + 1)) (d + 1) (.val (.lst (L.map sgD))) .un (.val (.str s.1)) (.val (.int (s.2 : Int))) hsh (fun fu N μ h1 h2 h3 => by
      have en : (((d + 1 : Nat) : Int) - 1) = (d : Int) := by omega
      rw [en]
      exact leaf_ok S hS d (k+3) fu N μ (by omega) h1 h2 h3) s.2 0 [] (N + 1) μ1 rfl (by simp [Fm.dps]) (by have : s.2 * 8 ^ (d + 1) ≤ 3 * 8 ^ (d + 1) := Nat.mul_le_mul_right _ s3; omega) hb1
  have q1 : qs.length = s.2 := by simpa using q1
  have e : run (k+4) 22 = runOf 10 (greatF (run (k+3) 14) (run (k+3) 21)) := rfl
  refine ⟨.nd s.1 qs, μ', ?_, ?_, by simp only [Fm.dp]; omega, q4.up (by have : s.2 * 8 ^ (d + 1) ≤ 3 * 8 ^ (d + 1) := Nat.mul_le_mul_right _ s3; omega)⟩
  · rw [e]
    refine Gn.runOf_ret [.val (.loc 0), .val (.lst (S.map sgD)), .val (.int (fuel : Int)), .val (.int ((d + 1 : Nat) : Int)), .un, .un, .un, .un, .un, .un] rfl ?_
    unfold greatF
    rw [fSeq_nxt E1, fSeq_nxt E2, fSeq_nxt E3]
    have C := fLc_eq (vs := [9]) (Gn.fRng1_eq (fa := fVar 7) (env := [.val (.loc 0), .val (.lst (S.map sgD)), .val (.int (fuel : Int)), .val (.int ((d + 1 : Nat) : Int)), .val (.lst (L.map sgD)), .un, .val (.str s.1), .val (.int (s.2 : Int)), .val (.int (sh : Int)), .un]) (μ := μ1) (n := s.2) rfl (by omega)) (by rw [rangeD_len, LIM]; omega) Lp
    have T := fTupCall C
    have A : fTup (fCons (fVar 6) fNil) [.val (.loc 0), .val (.lst (S.map sgD)), .val (.int (fuel : Int)), .val (.int ((d + 1 : Nat) : Int)), .val (.lst (L.map sgD)), .un, .val (.str s.1), .val (.int (s.2 : Int)), .val (.int (sh : Int)), .un] μ1 = .ok (.val (.tup [.str s.1])) μ1 := by
      simp [fTup, fCons, fVar, fNil, Res.bind, LIM]
    have G := fB_eq gAdd A T
    rw [gAdd_tup (by rw [ds_len, LIM]; simp; omega)] at G
    exact Gn.fRetE G
  · simp only [Fm.fine, Bool.and_eq_true, decide_eq_true_eq]
    exact ⟨s1, by omega, q2⟩
end Kx

set_option linter.all false
set_option maxRecDepth 100000
set_option maxHeartbeats 4000000
namespace Kx
open PySem Q
local macro_rules | `(tactic| simp_arith [$as,*] $[$l]?) => `(tactic| simp [runOf, envOf, fSeq, fIfS, fTB, fB, gEq, gNe, gGt, gLt, gLe, gGe, gIB, fVar, fC, gIx, sq, Res.bind, Res.to, L2.atI, L2.ixN, fSet, fMv, fMo, fSetIx, fRet, gMod, gDiv, gI, gAdd, gMul, fCall, fConsr, fNilr, gInt, getL, putL, SqD.items, fOr, fAnd, fOrV, fAndV, fNotV, fNot, fTT, tru, fFn, fCons, fNil, fNext, gLen, rd, fYes, wipeE, Tg.bind, Tg.binds, Res.nx, fZp, srcD, zipD, fSl, gSl, fSomeO, fNoO, fTup, fLst, fLc, List.replicate, D.scal2, D.eq, D.eqs, D.plain, D.plains, D.dep, D.deps, LIM, n1_ne, n1_beq, n1_bne, n1_pos, cut1, srcD_sq, fIf, gTuple, gList, fRaise, gIsN, gNotN, RV.isN, fIsi, isi, subTy, tyGo, tyName, fAny, $as,*] $[$l]?)
/-! ### agreeing, as the laws ask it -/
theorem sEq (s t : Str) (env : En) (μ : Mu) (hs : PyData.strOk s = true) (ht : PyData.strOk t = true) : gNe env (.val (.str s)) (.val (.str t)) μ = .ok (.val (.bl (!decide (s = t)))) μ := by
  rw [gNe_plain (by simp [D.plain, hs]) (by simp [D.plain, ht]) (by simp [D.dep]) (fun n z => by cases z) (fun n z => by cases z)]
  have : D.eq (.str s) (.str t) = decide (s = t) := by simp only [D.eq]; rw [Bool.eq_iff_iff]; simp
  rw [this]
def isop : Fm → Bool
  | .op => true
  | .nd _ _ => false
theorem isOp (f : Fm) (h : f.ok = true) (env : En) (μ : Mu) : gEq env (.val (f.d false)) (.val (.tup [])) μ = .ok (.val (.bl (isop f))) μ := by
  rw [gEq_plain (plain_d false f h) rfl (by simp [D.dep, D.deps]; omega) (fun n z => by cases f <;> simp [Fm.d, sqd] at z) (fun n z => by cases z)]
  cases f <;> rfl
theorem isNop (f : Fm) (h : f.ok = true) (env : En) (μ : Mu) : gNe env (.val (f.d false)) (.val (.tup [])) μ = .ok (.val (.bl (!isop f))) μ := by
  rw [gNe_plain (plain_d false f h) rfl (by simp [D.dep, D.deps]; omega) (fun n z => by cases f <;> simp [Fm.d, sqd] at z) (fun n z => by cases z)]
  cases f <;> rfl
theorem oks_mem : ∀ {ps : List Fm} {p : Fm}, Fm.oks ps = true → p ∈ ps → p.ok = true
  | q :: ps, p, h, m => by
    simp only [Fm.oks, Bool.and_eq_true] at h
    rcases List.mem_cons.mp m with e | m
    · exact e ▸ h.1
    · exact oks_mem h.2 m
theorem nlen_ne (a b : Nat) (env : En) (μ : Mu) : gNe env (.val (.int ((a : Int) + 1))) (.val (.int ((b : Int) + 1))) μ = .ok (.val (.bl (!decide (a = b)))) μ := by
  rw [gNe_plain rfl rfl (by simp [D.dep]) (fun n z => by cases z) (fun n z => by cases z)]
  have : D.eq (.int ((a : Int) + 1)) (.int ((b : Int) + 1)) = decide (a = b) := by
    simp only [D.eq]; rw [Bool.eq_iff_iff]; simp; omega
  rw [this]
theorem lagr_ok : ∀ (k : Nat) (f g : Fm) (μ : Mu), f.dp + 1 ≤ k → f.few = true → f.ok = true → g.ok = true → run k 45 [f.d false, g.d false] μ = .ok (.val (.bl (agr f g))) μ
  | 0, _, _, _, h, _, _, _ => by omega
  | k + 1, f, g, μ, hk, hf, of, og => by
    have e : run (k+1) 45 = runOf 4 (b45 (run k)) := rfl
    rw [e]
    cases f with
    | op =>
      have q : agr .op g = true := agr_op1 g
      rw [q]
      simp_arith [b45, Fm.d, sqd]
    | nd s ps =>
      cases g with
      | op =>
        have pf := plain_d false _ of
        simp only [Fm.d, sqd] at pf
        simp only [D.plain] at pf
        have pf2 : PyData.strOk s = true ∧ D.plains (Fm.ds false ps) = true := by simpa [D.plains, D.plain] using pf
        have dm : min (max 0 (D.deps (Fm.ds false ps)) + 1) 1 ≤ 64 := by omega
        simp_arith [b45, Fm.d, sqd, agr, pf2, dm]
      | nd t qs =>
        have hf2 : ps.length ≤ 1000 ∧ Fm.fews ps = true := by simpa [Fm.few] using hf
        have o1 : PyData.strOk s = true ∧ Fm.oks ps = true := by simpa [Fm.ok] using of
        have o2 : PyData.strOk t = true ∧ Fm.oks qs = true := by simpa [Fm.ok] using og
        have N1 := isOp (.nd s ps) of
        have N2 := isOp (.nd t qs) og
        have N3 := sEq s t
        have N4 := nlen_ne ps.length qs.length
        let env : En := [.val ((Fm.nd s ps).d false), .val ((Fm.nd t qs).d false), .un, .un]
        have v0 : fVar 0 env μ = .ok (.val ((Fm.nd s ps).d false)) μ := rfl
        have v1 : fVar 1 env μ = .ok (.val ((Fm.nd t qs).d false)) μ := rfl
        have i0 : fB gIx (fVar 0) (fC (.int 0)) env μ = .ok (.val (.str s)) μ := by simp [env, fB, fVar, fC, gIx, Fm.d, sqd, sq, SqD.items, L2.atI, L2.ixN, Res.bind, n1_pos]
        have i1 : fB gIx (fVar 1) (fC (.int 0)) env μ = .ok (.val (.str t)) μ := by simp [env, fB, fVar, fC, gIx, Fm.d, sqd, sq, SqD.items, L2.atI, L2.ixN, Res.bind, n1_pos]
        have t0 : fTup fNil env μ = .ok (.val (.tup [])) μ := by simp [fTup, fNil, Res.bind]
        have T1 : fOr (fTB (fB gEq (fVar 0) (fTup fNil))) (fTB (fB gEq (fVar 1) (fTup fNil))) env μ = .ok false μ := by
          rw [Gn.fOr_eq (Gn.fTB_eq ((fB_eq gEq v0 t0).trans (N1 env μ)))]
          exact Gn.fTB_eq ((fB_eq gEq v1 t0).trans (N2 env μ))
        have l0 : fCall gLen (fConsr (fVar 0) fNilr) env μ = .ok (.val (.int ((ps.length : Int) + 1))) μ := by
          simp [env, fCall, fConsr, fNilr, fVar, gLen, Fm.d, sqd, sq, SqD.items, Res.bind, ds_len]
        have l1 : fCall gLen (fConsr (fVar 1) fNilr) env μ = .ok (.val (.int ((qs.length : Int) + 1))) μ := by
          simp [env, fCall, fConsr, fNilr, fVar, gLen, Fm.d, sqd, sq, SqD.items, Res.bind, ds_len]
        have T2 : fOr (fTB (fB gNe (fB gIx (fVar 0) (fC (.int 0))) (fB gIx (fVar 1) (fC (.int 0))))) (fTB (fB gNe (fCall gLen (fConsr (fVar 0) fNilr)) (fCall gLen (fConsr (fVar 1) fNilr)))) env μ = .ok (unl s ps.length t qs.length) μ := by
          rw [Gn.fOr_eq (Gn.fTB_eq ((fB_eq gNe i0 i1).trans (N3 env μ o1.1 o2.1)))]
          have z := Gn.fTB_eq ((fB_eq gNe l0 l1).trans (N4 env μ))
          rw [z]
          unfold unl
          by_cases h : s = t <;> by_cases h' : ps.length = qs.length <;> simp [h, h']
        have L := zip_loop false false (run k 45) (fun p q => .bl (agr p q)) (.val ((Fm.nd s ps).d false)) (.val ((Fm.nd t qs).d false)) μ ps qs [] fun p hp q hq => lagr_ok k p q μ (by have := dps_mem hp; simp only [Fm.dp] at hk; omega) (fews_mem hf2.2 hp) (oks_mem o1.2 hp) (oks_mem o2.2 hq)
        have z := zipD_small false false ps qs hf2.1
        have w := bls_zip agr ps qs
        have v := agrA_zip ps qs
        refine Gn.runOf_ret env rfl ?_
        unfold b45
        rw [fSeq_nxt (Gn.fIf_n T1)]
        cases hu : unl s ps.length t qs.length with
        | true =>
          rw [hu] at T2
          have r : fRet (fMv (fC (.bl false))) env μ = .ret (.val (.bl false)) μ := rfl
          rw [Gn.fSeq_ret ((Gn.fIf_t T2).trans r)]
          simp [agr, hu]
        | false =>
          rw [hu] at T2
          rw [fSeq_nxt (Gn.fIf_n T2)]
          have Z : fZp (fSl gSl (fVar 0) (fSomeO (fC (.int 1))) fNoO) (fSl gSl (fVar 1) (fSomeO (fC (.int 1))) fNoO) env μ = .ok (zipD (Fm.ds false ps) (Fm.ds false qs)) μ := by
            have s0 := Gn.fSlFrom (fe := fVar 0) (fh := fC (.int 1)) (env := env) (μ := μ) (n := 1) v0 rfl
            have s1 := Gn.fSlFrom (fe := fVar 1) (fh := fC (.int 1)) (env := env) (μ := μ) (n := 1) v1 rfl
            simp only [fZp, s0, s1, Res.bind, srcD]
            rfl
          have C := fLc_eq (vs := [2, 3]) Z z L
          refine Gn.fRetE ?_
          simp only [List.nil_append] at C
          simp only [fCall, fConsr, fNilr, C, Res.bind]
          have q : agr (.nd s ps) (.nd t qs) = agrA ps qs := by simp [agr, hu]
          have zl : (List.zipWith (fun p q => D.bl (agr p q)) ps qs).length ≤ 16777216 := by rw [List.length_zipWith]; omega
          simp [gAll, gBls, sq, SqD.items, w, v, q]
          try omega
end Kx

set_option linter.all false
set_option maxRecDepth 100000
set_option maxHeartbeats 4000000
namespace Kx
open PySem Q
/-! ### sets of forms, of signs; sizes -/
theorem dedup_sub : ∀ (ds : List D) (x : D), x ∈ dedup ds → x ∈ ds
  | [], x, h => by simp [dedup] at h
  | d :: ds, x, h => by
    simp only [dedup, List.mem_cons] at h ⊢
    rcases h with h | h
    · exact .inl h
    · exact .inr (dedup_sub ds x (List.mem_filter.mp h).1)
theorem dedup_len : ∀ ds : List D, (dedup ds).length ≤ ds.length
  | [] => by simp [dedup]
  | d :: ds => by
    have := dedup_len ds
    have h := List.length_filter_le (fun y => !D.eq d y) (dedup ds)
    simp only [dedup, List.length_cons]; omega
/-- sorted(set(ds)) -/
def sset (ds : List D) : List D := isort (dedup ds)
theorem sset_sub {ds : List D} {x : D} (h : x ∈ sset ds) : x ∈ ds := dedup_sub ds x ((isort_perm (dedup ds)).mem_iff.mp h)
theorem sset_len (ds : List D) : (sset ds).length ≤ ds.length := by
  unfold sset
  rw [(isort_perm (dedup ds)).length_eq]; exact dedup_len ds
theorem sset_ne {ds : List D} (h : ds ≠ []) : sset ds ≠ [] := by
  cases ds with
  | nil => exact absurd rfl h
  | cons d ds =>
    intro e
    have := (isort_perm (dedup (d :: ds))).length_eq
    have e : isort (dedup (d :: ds)) = [] := e
    rw [e] at this
    simp [dedup] at this
theorem fSset_val {f : FE} {env : En} {μ μ1 : Mu} {ds : List D} (h : f env μ = .ok (.val (.lst ds)) μ1) (ok : setOk ds = true) : fSset' f env μ = .ok (.val (.lst (sset ds))) μ1 := by
  simp [fSset', h, Res.bind, sq, ok, sset]
theorem fSset_own {i : Nat} {env : En} {μ : Mu} {ds : List D} (h : env[i]? = some (.own ds)) (ok : setOk ds = true) : fSset' (fVar i) env μ = .ok (.val (.lst (sset ds))) μ := by
  simp [fSset', fVar, h, Res.bind, sq, ok, sset]
mutual
theorem cmp_f : ∀ f g : Fm, D.cmp (f.d false) (g.d false) = true
  | .op, .op => rfl
  | .op, .nd t qs => rfl
  | .nd s ps, .op => rfl
  | .nd s ps, .nd t qs => by simp only [Fm.d, sqd, D.cmp, D.cmps, cmps_f ps qs, Bool.and_self]
theorem cmps_f : ∀ ps qs : List Fm, D.cmps (Fm.ds false ps) (Fm.ds false qs) = true
  | [], [] => rfl
  | [], _ :: _ => rfl
  | _ :: _, [] => rfl
  | p :: ps, q :: qs => by simp only [Fm.ds, D.cmps, cmp_f p q, cmps_f ps qs, Bool.and_self]
end
theorem cmp_sg (s t : Sg) : D.cmp (sgD s) (sgD t) = true := rfl
theorem isTup_f (f : Fm) : isTup (f.d false) = true := by cases f <;> rfl
theorem setOk_f {fs : List Fm} (h : Fm.fines fs = true) (hd : Fm.dps fs ≤ 7) (hl : fs.length < 64) : setOk (Fm.ds false fs) = true := by
  have d := dep_ds false fs
  have p := plain_ds false fs (fines_oks fs h)
  have m : ∀ x ∈ Fm.ds false fs, ∃ f, x = Fm.d false f := fun x hx => by
    rw [← ds_map] at hx
    obtain ⟨f, _, e⟩ := List.mem_map.mp hx
    exact ⟨f, e.symm⟩
  simp only [setOk, sortable, Bool.and_eq_true, decide_eq_true_eq, List.all_eq_true, ds_len]
  refine ⟨⟨⟨⟨⟨fun x hx y hy => ?_, p⟩, by omega⟩, fun x hx => ?_⟩, by omega⟩, hl⟩
  · obtain ⟨f, rfl⟩ := m x hx
    obtain ⟨g, rfl⟩ := m y hy
    exact cmp_f f g
  · obtain ⟨f, rfl⟩ := m x hx
    exact isTup_f f
theorem setOk_sg {S : List Sg} (h : ∀ s ∈ S, s.1 ∈ names) (hl : S.length < 64) : setOk (S.map sgD) = true := by
  have d := deps_sgs S
  have p := plain_sgs h
  simp only [setOk, sortable, Bool.and_eq_true, decide_eq_true_eq, List.all_eq_true, List.length_map]
  refine ⟨⟨⟨⟨⟨fun x hx y hy => ?_, p⟩, by omega⟩, fun x hx => ?_⟩, by omega⟩, hl⟩
  · obtain ⟨f, _, rfl⟩ := List.mem_map.mp hx
    obtain ⟨g, _, rfl⟩ := List.mem_map.mp hy
    exact cmp_sg f g
  · obtain ⟨f, _, rfl⟩ := List.mem_map.mp hx
    rfl
theorem lift_m {α β : Type} {g : α → β} {T : List α} : ∀ {es : List β}, (∀ e ∈ es, e ∈ T.map g) → ∃ ls : List α, es = ls.map g ∧ ∀ l ∈ ls, l ∈ T
  | [], _ => ⟨[], rfl, fun _ h => by cases h⟩
  | e :: es, h => by
    obtain ⟨l, hl, he⟩ := List.mem_map.mp (h e List.mem_cons_self)
    obtain ⟨ls, q1, q2⟩ := lift_m fun x hx => h x (List.mem_cons_of_mem _ hx)
    refine ⟨l :: ls, by rw [q1, List.map_cons, he], fun x hx => ?_⟩
    rcases List.mem_cons.mp hx with e | hx
    · rw [e]; exact hl
    · exact q2 x hx
theorem sset_f (fs : List Fm) : ∃ gs : List Fm, sset (Fm.ds false fs) = Fm.ds false gs ∧ (∀ g ∈ gs, g ∈ fs) ∧ gs.length ≤ fs.length ∧ (fs ≠ [] → gs ≠ []) := by
  rw [← ds_map]
  obtain ⟨gs, e, h⟩ := lift_m (g := fun p => Fm.d false p) (T := fs) (es := sset (fs.map fun p => Fm.d false p)) fun x hx => sset_sub hx
  refine ⟨gs, by rw [e, ds_map], h, ?_, fun ne z => ?_⟩
  · have := sset_len (fs.map fun p => Fm.d false p)
    rw [e] at this
    simpa using this
  · subst z
    exact sset_ne (ds := fs.map fun p => Fm.d false p) (by simpa using ne) (by simpa using e)
theorem sset_sg (S : List Sg) : ∃ T : List Sg, sset (S.map sgD) = T.map sgD ∧ (∀ s ∈ T, s ∈ S) ∧ T.length ≤ S.length := by
  obtain ⟨T, e, h⟩ := lift_m (g := sgD) (T := S) (es := sset (S.map sgD)) fun x hx => sset_sub hx
  refine ⟨T, e, h, ?_⟩
  have := sset_len (S.map sgD)
  rw [e] at this
  simpa using this
theorem pk1 (k : Nat) (ds : List D) (c : Nat) (hc : c ≤ 1000000) (hl : ds.length ≤ 1000000) (N : Nat) (hN : N + c ≤ 1000000000000) (μ : Mu) (h : Gn.Bx N μ) : ∃ (es : List D) (μ' : Mu), (∀ e ∈ es, e ∈ ds) ∧ es.length ≤ c ∧ run (k+2) 15 [.loc 0, .lst ds, .int (c : Int)] μ = .ok (.own es) μ' ∧ Gn.Bx (N + c) μ' := Gn.pick_ok (take1 k) ds c hc hl N hN μ h
/-! ### parts of a form -/
theorem szs_get : ∀ {ps : List Fm} {i : Nat} {p : Fm}, ps[i]? = some p → p.sz ≤ Fm.szs ps
  | [], i, p, h => by simp at h
  | q :: ps, 0, p, h => by simp at h; subst h; simp only [Fm.szs]; omega
  | q :: ps, i + 1, p, h => by
    have := szs_get (ps := ps) (i := i) (by simpa using h)
    simp only [Fm.szs]; omega
theorem pt_fine : ∀ (l : List Nat) (f g : Fm), pt l f = some g → f.fine = true → g.fine = true ∧ g.sz + l.length ≤ f.sz
  | [], f, g, h, hf => by simp only [pt, Option.some.injEq] at h; rw [← h]; exact ⟨hf, Nat.le_refl _⟩
  | i :: l, .op, g, h, _ => by simp [pt] at h
  | i :: l, .nd s ps, g, h, hf => by
    simp only [pt] at h
    have hf := fine_nd hf
    cases hp : ps[i]? with
    | none => rw [hp] at h; simp at h
    | some p =>
      rw [hp] at h
      have a := pt_fine l p g h (fines_mem hf.2.2 (List.mem_of_getElem? hp))
      have b := szs_get hp
      refine ⟨a.1, ?_⟩
      simp only [List.length_cons, Fm.sz]; omega
theorem szs_app : ∀ ps qs : List Fm, Fm.szs (ps ++ qs) = Fm.szs ps + Fm.szs qs
  | [], _ => by simp [Fm.szs]
  | p :: ps, qs => by simp only [List.cons_append, Fm.szs, szs_app ps qs]; omega
theorem putF_sz : ∀ (l : List Nat) (f g x : Fm), pt l f = some g → (putF f l x).sz + g.sz = f.sz + x.sz
  | [], f, g, x, h => by simp only [pt, Option.some.injEq] at h; simp only [putF, h]; omega
  | i :: l, .op, g, x, h => by simp [pt] at h
  | i :: l, .nd s ps, g, x, h => by
    simp only [pt] at h
    cases hp : ps[i]? with
    | none => rw [hp] at h; simp at h
    | some p =>
      rw [hp] at h
      have ih := putF_sz l p g x h
      have li := (List.getElem?_eq_some_iff.mp hp).1
      have e : ps = ps.take i ++ p :: ps.drop (i + 1) := by
        have : ps[i]'li = p := (List.getElem?_eq_some_iff.mp hp).2
        rw [← this, ← List.drop_eq_getElem_cons li, List.take_append_drop]
      have s1 : Fm.szs ps = Fm.szs (ps.take i) + (p.sz + Fm.szs (ps.drop (i + 1))) := by
        rw [congrArg Fm.szs e, szs_app]; rfl
      simp only [putF, hp, Fm.sz, szs_app, Fm.szs, s1]; omega
mutual
theorem fine_sz3 : ∀ f : Fm, f.fine = true → 2 * f.sz + 1 ≤ 3 ^ (f.dp + 1)
  | .op, _ => by simp [Fm.sz, Fm.dp]
  | .nd s ps, h => by
    have h := fine_nd h
    have ih := fines_sz3 ps h.2.2
    have p : 1 ≤ 3 ^ Fm.dps ps := Nat.pow_pos (by omega)
    have e : 3 ^ (Fm.dps ps + 1 + 1) = 3 * 3 ^ (Fm.dps ps + 1) := by rw [Nat.pow_succ, Nat.mul_comm]
    have e1 : 3 ^ (Fm.dps ps + 1) = 3 * 3 ^ Fm.dps ps := by rw [Nat.pow_succ, Nat.mul_comm]
    have l : ps.length = 0 ∨ ps.length = 1 ∨ ps.length = 2 ∨ ps.length = 3 := by omega
    simp only [Fm.sz, Fm.dp]
    rw [e]
    rw [e1] at ih ⊢
    rcases l with l | l | l | l <;> rw [l] at ih <;> omega
theorem fines_sz3 : ∀ ps : List Fm, Fm.fines ps = true → 2 * Fm.szs ps + ps.length ≤ ps.length * 3 ^ (Fm.dps ps + 1)
  | [], _ => by simp [Fm.szs]
  | p :: ps, h => by
    have h := fines_cons h
    have a := fine_sz3 p h.1
    have b := fines_sz3 ps h.2
    have m1 : 3 ^ (p.dp + 1) ≤ 3 ^ (max p.dp (Fm.dps ps) + 1) := Nat.pow_le_pow_right (by omega) (by omega)
    have m2 : 3 ^ (Fm.dps ps + 1) ≤ 3 ^ (max p.dp (Fm.dps ps) + 1) := Nat.pow_le_pow_right (by omega) (by omega)
    have m3 : ps.length * 3 ^ (Fm.dps ps + 1) ≤ ps.length * 3 ^ (max p.dp (Fm.dps ps) + 1) := Nat.mul_le_mul_left _ m2
    simp only [Fm.szs, Fm.dps, List.length_cons, Nat.add_mul, Nat.one_mul]; omega
end
end Kx

set_option linter.all false
set_option maxRecDepth 100000
set_option maxHeartbeats 4000000
namespace Kx
open PySem Q
/-! ### a drawn side -/
def leafN (x : Fm) : Prop := x = .op ∨ x = .nd "a" [] ∨ x = .nd "b" []
def partN (x : Fm) : Prop := leafN x ∨ ∃ s y, s ∈ names ∧ leafN y ∧ x = .nd s [y]
theorem leaf_facts {x : Fm} (h : leafN x) : x.fine = true ∧ x.dp ≤ 1 ∧ x.sz ≤ 1 := by
  rcases h with rfl | rfl | rfl
  · exact ⟨rfl, by decide, by decide⟩
  · exact ⟨by decide +kernel, by decide, by decide⟩
  · exact ⟨by decide +kernel, by decide, by decide⟩
theorem part_facts {x : Fm} (h : partN x) : x.fine = true ∧ x.dp ≤ 2 ∧ x.sz ≤ 2 := by
  rcases h with h | ⟨s, y, hs, hy, rfl⟩
  · obtain ⟨a, b, c⟩ := leaf_facts h
    exact ⟨a, by omega, by omega⟩
  · obtain ⟨a, b, c⟩ := leaf_facts hy
    refine ⟨?_, ?_, ?_⟩
    · simp [Fm.fine, Fm.fines, hs, a]
    · simp only [Fm.dp, Fm.dps]; omega
    · simp only [Fm.sz, Fm.szs]; omega
abbrev leavesD : List D := [.tup [], .tup [.str "a"], .tup [.str "b"]]
abbrev partsD (x : D) : List D := [.tup [], .tup [], .tup [], .tup [.str "a"], .tup [.str "b"], .tup [.str "a"], .tup [.str "g", x], .tup [.str "h", x]]
theorem leaf_of {d : D} (h : d ∈ leavesD) : ∃ x : Fm, d = x.d false ∧ leafN x := by
  simp only [leavesD, List.mem_cons, List.not_mem_nil, or_false] at h
  rcases h with rfl | rfl | rfl
  · exact ⟨.op, rfl, .inl rfl⟩
  · exact ⟨.nd "a" [], rfl, .inr (.inl rfl)⟩
  · exact ⟨.nd "b" [], rfl, .inr (.inr rfl)⟩
theorem part_of {y : Fm} (hy : leafN y) {d : D} (h : d ∈ partsD (y.d false)) : ∃ x : Fm, d = x.d false ∧ partN x := by
  simp only [partsD, List.mem_cons, List.not_mem_nil, or_false] at h
  rcases h with rfl | rfl | rfl | rfl | rfl | rfl | rfl | rfl
  · exact ⟨.op, rfl, .inl (.inl rfl)⟩
  · exact ⟨.op, rfl, .inl (.inl rfl)⟩
  · exact ⟨.op, rfl, .inl (.inl rfl)⟩
  · exact ⟨.nd "a" [], rfl, .inl (.inr (.inl rfl))⟩
  · exact ⟨.nd "b" [], rfl, .inl (.inr (.inr rfl))⟩
  · exact ⟨.nd "a" [], rfl, .inl (.inr (.inl rfl))⟩
  · exact ⟨.nd "g" [y], rfl, .inr ⟨"g", y, by decide +kernel, hy, rfl⟩⟩
  · exact ⟨.nd "h" [y], rfl, .inr ⟨"h", y, by decide +kernel, hy, rfl⟩⟩
abbrev sideB (ro : RunF) : FS := (fSeq (fSet 5 (fMv (fFn 2 ro (fCons (fVar 0) (fCons (fLst (fCons (fTup fNil) (fCons (fTup (fCons (fC (.str "a")) fNil)) (fCons (fTup (fCons (fC (.str "b")) fNil)) fNil)))) fNil)))))
    (fApp 3 (fFn 2 ro (fCons (fVar 0) (fCons (fLst (fCons (fTup fNil) (fCons (fTup fNil) (fCons (fTup fNil) (fCons (fTup (fCons (fC (.str "a")) fNil)) (fCons (fTup (fCons (fC (.str "b")) fNil)) (fCons (fTup (fCons (fC (.str "a")) fNil)) (fCons (fTup (fCons (fC (.str "g")) (fCons (fVar 5) fNil))) (fCons (fTup (fCons (fC (.str "h")) (fCons (fVar 5) fNil))) fNil))))))))) fNil)))))
theorem side_loop (k : Nat) (e1 e2 : EV) : ∀ (m : Nat) (i : Int) (ps : List Fm) (e4 e5 : EV) (N : Nat) (μ : Mu), (∀ p ∈ ps, partN p) → ps.length + m ≤ 10 → N + m * 2 ≤ 1000000000000 → Gn.Bx N μ →
    ∃ (qs : List Fm) (a4 a5 : EV) (μ' : Mu), loop (.nm 4) (sideB (run (k+2) 14)) (rangeD i m) [.val (.loc 0), e1, e2, .own (Fm.ds false ps), e4, e5] μ = .nxt [.val (.loc 0), e1, e2, .own (Fm.ds false qs), a4, a5] μ' ∧ qs.length = ps.length + m ∧ (∀ p ∈ qs, partN p) ∧ Gn.Bx (N + m * 2) μ'
  | 0, i, ps, e4, e5, N, μ, h, _, _, hb => ⟨ps, e4, e5, μ, rfl, rfl, h, by simpa using hb⟩
  | m + 1, i, ps, e4, e5, N, μ, h, hl, hN, hb => by
    obtain ⟨d1, μ1, m1, E1, hb1⟩ := of1 k leavesD (by decide) (by decide) N (by omega) μ hb
    obtain ⟨y, rfl, hy⟩ := leaf_of m1
    obtain ⟨d2, μ2, m2, E2, hb2⟩ := of1 k (partsD (y.d false)) (by simp [partsD]) (by simp [partsD]) (N + 1) (by omega) μ1 hb1
    obtain ⟨x, rfl, hx⟩ := part_of hy m2
    obtain ⟨qs, a4, a5, μ', L, q1, q2, q3⟩ := side_loop k e1 e2 m (i + 1) (ps ++ [x]) (.val (.int i)) (.val (y.d false)) (N + 2) μ2
      (fun p hp => by
        rcases List.mem_append.mp hp with hp | hp
        · exact h p hp
        · rw [List.mem_singleton.mp hp]; exact hx) (by simp only [List.length_append, List.length_singleton]; omega) (by omega) hb2
    refine ⟨qs, a4, a5, μ', ?_, by rw [q1, List.length_append, List.length_singleton]; omega, q2, q3.up (by omega)⟩
    have S1 : fSet 5 (fMv (fFn 2 (run (k+2) 14) (fCons (fVar 0) (fCons (fLst (fCons (fTup fNil) (fCons (fTup (fCons (fC (.str "a")) fNil)) (fCons (fTup (fCons (fC (.str "b")) fNil)) fNil)))) fNil)))) [.val (.loc 0), e1, e2, .own (Fm.ds false ps), .val (.int i), e5] μ = .nxt [.val (.loc 0), e1, e2, .own (Fm.ds false ps), .val (.int i), .val (y.d false)] μ1 := by
      simp [fSet, fMv, fFn, fCons, fVar, fLst, fTup, fC, fNil, Res.bind, Res.to, LIM, E1]
    have z : ps.length < LIM := by unfold LIM; omega
    have S2 : fApp 3 (fFn 2 (run (k+2) 14) (fCons (fVar 0) (fCons (fLst (fCons (fTup fNil) (fCons (fTup fNil) (fCons (fTup fNil) (fCons (fTup (fCons (fC (.str "a")) fNil)) (fCons (fTup (fCons (fC (.str "b")) fNil)) (fCons (fTup (fCons (fC (.str "a")) fNil)) (fCons (fTup (fCons (fC (.str "g")) (fCons (fVar 5) fNil))) (fCons (fTup (fCons (fC (.str "h")) (fCons (fVar 5) fNil))) fNil))))))))) fNil))) [.val (.loc 0), e1, e2, .own (Fm.ds false ps), .val (.int i), .val (y.d false)] μ1 = .nxt [.val (.loc 0), e1, e2, .own (Fm.ds false (ps ++ [x])), .val (.int i), .val (y.d false)] μ2 := by
      rw [ds_app]
      simp [fApp, getL, putL, fFn, fCons, fVar, fLst, fTup, fC, fNil, Res.bind, Res.to, LIM, E2, ds_len, z, Fm.ds]
      have := z; unfold LIM at this; omega
    simp only [rangeD]
    exact (Gn.loop_nxt (t := .nm 4) (b := sideB (run (k+2) 14)) (env1 := [.val (.loc 0), e1, e2, .own (Fm.ds false ps), .val (.int i), e5]) rfl ((fSeq_nxt S1).trans S2)).trans L
def sideS : List Sg := [("f", 2), ("f", 2), ("k", 3), ("h", 1)]
theorem side_ok (k N : Nat) (μ : Mu) (hN : N + 10 ≤ 1000000000000) (hb : Gn.Bx N μ) :
    ∃ (f : Fm) (μ' : Mu), run (k+3) 49 [.loc 0] μ = .ok (.val (f.d false)) μ' ∧ f.fine = true ∧ f.dp ≤ 3 ∧ f.sz ≤ 7 ∧ isop f = false ∧ Gn.Bx (N + 10) μ' := by
  have e : run (k+3) 49 = runOf 6 (b49 (run (k+2))) := rfl
  obtain ⟨d, μ1, m1, E1, hb1⟩ := of1 k (sideS.map sgD) (by decide) (by decide) N (by omega) μ hb
  obtain ⟨s, hs, rfl⟩ := List.mem_map.mp m1
  have hsn : s.1 ∈ names ∧ s.2 ≤ 3 := by
    have : ∀ s ∈ sideS, s.1 ∈ names ∧ s.2 ≤ 3 := by decide +kernel
    exact this s hs
  obtain ⟨qs, a4, a5, μ', L, q1, q2, q3⟩ := side_loop k (.val (.str s.1)) (.val (.int (s.2 : Int))) s.2 0 [] .un .un (N + 1) μ1 (fun p hp => by cases hp) (by simp; omega) (by omega) hb1
  have q1 : qs.length = s.2 := by simpa using q1
  have qf : Fm.fines qs = true := fines_of fun q hq => (part_facts (q2 q hq)).1
  have qd : Fm.dps qs ≤ 2 := dps_of fun q hq => (part_facts (q2 q hq)).2.1
  have qz : ∀ qs : List Fm, (∀ q ∈ qs, partN q) → Fm.szs qs ≤ 2 * qs.length := fun qs => by
    induction qs with
    | nil => intro _; simp [Fm.szs]
    | cons q qs ih =>
      intro h
      have a := ih fun x hx => h x (List.mem_cons_of_mem _ hx)
      have b := (part_facts (h q List.mem_cons_self)).2.2
      simp only [Fm.szs, List.length_cons]; omega
  have qz := qz qs q2
  refine ⟨.nd s.1 qs, μ', ?_, ?_, by simp only [Fm.dp]; omega, by simp only [Fm.sz]; omega, rfl, q3.up (by omega)⟩
  · rw [e]
    refine Gn.runOf_ret [.val (.loc 0), .un, .un, .un, .un, .un] rfl ?_
    unfold b49
    have F1 : fAsg (.tp [(.nm 1), (.nm 2)]) (fFn 2 (run (k+2) 14) (fCons (fVar 0) (fCons (fLst (fCons (fTup (fCons (fC (.str "f")) (fCons (fC (.int 2)) fNil))) (fCons (fTup (fCons (fC (.str "f")) (fCons (fC (.int 2)) fNil))) (fCons (fTup (fCons (fC (.str "k")) (fCons (fC (.int 3)) fNil))) (fCons (fTup (fCons (fC (.str "h")) (fCons (fC (.int 1)) fNil))) fNil))))) fNil))) [.val (.loc 0), .un, .un, .un, .un, .un] μ = .nxt [.val (.loc 0), .val (.str s.1), .val (.int (s.2 : Int)), .un, .un, .un] μ1 := by
      have E1 : run (k+2) 14 [.loc 0, .lst [.tup [.str "f", .int 2], .tup [.str "f", .int 2], .tup [.str "k", .int 3], .tup [.str "h", .int 1]]] μ = .ok (.val (sgD s)) μ1 := E1
      simp [fAsg, fFn, fCons, fVar, fLst, fTup, fC, fNil, Res.bind, Res.to, LIM, E1, sgD, Tg.bind, Tg.binds]
    have F2 : fSet 3 (fMo (fLst fNil)) [.val (.loc 0), .val (.str s.1), .val (.int (s.2 : Int)), .un, .un, .un] μ1 = .nxt [.val (.loc 0), .val (.str s.1), .val (.int (s.2 : Int)), .own (Fm.ds false []), .un, .un] μ1 := by
      simp [fSet, fMo, fLst, fNil, Res.bind, Res.to, Fm.ds]
    have F3 := Gn.fFor_nxt (t := .nm 4) (Gn.fRng1_eq (fa := fVar 2) (env := [.val (.loc 0), .val (.str s.1), .val (.int (s.2 : Int)), .own (Fm.ds false []), .un, .un]) (μ := μ1) (n := s.2) rfl (by omega)) L
    rw [fSeq_nxt F1, fSeq_nxt F2, fSeq_nxt F3]
    have z : qs.length + 1 ≤ 16777216 := by omega
    refine Gn.fRetE ?_
    have A : fTup (fCons (fVar 1) fNil) [.val (.loc 0), .val (.str s.1), .val (.int (s.2 : Int)), .own (Fm.ds false qs), a4, a5] μ' = .ok (.val (.tup [.str s.1])) μ' := by
      simp [fTup, fCons, fVar, fNil, Res.bind, LIM]
    have T : fCall gTuple (fConsr (fVar 3) fNilr) [.val (.loc 0), .val (.str s.1), .val (.int (s.2 : Int)), .own (Fm.ds false qs), a4, a5] μ' = .ok (.val (.tup (Fm.ds false qs))) μ' := by
      simp [fCall, fConsr, fVar, fNilr, gTuple, sq, SqD.items, Res.bind]
    have G := fB_eq gAdd A T
    rw [gAdd_tup (by rw [ds_len, LIM]; simp; omega)] at G
    exact G
  · simp only [Fm.fine, Bool.and_eq_true, decide_eq_true_eq]
    exact ⟨hsn.1, by omega, qf⟩
end Kx

set_option linter.all false
set_option maxRecDepth 100000
set_option maxHeartbeats 4000000
namespace Kx
open PySem Q
/-! ### the parts of forms -/
def subAt (f : Fm) (l : List Nat) : Fm := (pt l f).getD .op
def subs (f : Fm) : List Fm := ((spots f).drop 1).map (subAt f)
def subss : List Fm → List Fm
  | [] => []
  | f :: fs => subs f ++ subss fs
theorem subs_len (f : Fm) : (subs f).length + 1 ≤ f.sz := by
  have s0 : 0 < f.sz := by cases f <;> simp [Fm.sz]
  simp only [subs, List.length_map, List.length_drop, spots_len]; omega
theorem subss_len : ∀ fs : List Fm, (subss fs).length + fs.length ≤ Fm.szs fs
  | [] => by simp [subss, Fm.szs]
  | f :: fs => by
    have a := subs_len f
    have b := subss_len fs
    simp only [subss, List.length_append, Fm.szs, List.length_cons]; omega
theorem subs_mem {f g : Fm} (h : g ∈ subs f) (hf : f.fine = true) : g.fine = true ∧ g.dp ≤ f.dp ∧ g.sz ≤ f.sz := by
  obtain ⟨l, hl, rfl⟩ := List.mem_map.mp h
  obtain ⟨g, hg⟩ := spots_pt f l (List.mem_of_mem_drop hl)
  have e : subAt f l = g := by simp [subAt, hg]
  have a := pt_fine l f g hg hf
  have b := pt_dp l f g hg
  rw [e]
  exact ⟨a.1, by omega, by omega⟩
theorem subss_mem {g : Fm} : ∀ {fs : List Fm}, g ∈ subss fs → ∃ f ∈ fs, g ∈ subs f
  | [], h => by simp [subss] at h
  | f :: fs, h => by
    rcases List.mem_append.mp h with h | h
    · exact ⟨f, List.mem_cons_self, h⟩
    · obtain ⟨x, a, b⟩ := subss_mem h
      exact ⟨x, List.mem_cons_of_mem _ a, b⟩
theorem sub_loop (k : Nat) (f : Fm) (e0 e1 e4 : EV) (μ : Mu) : ∀ (ls : List (List Nat)) (acc : List Fm), (∀ l ∈ ls, l ∈ spots f) →
    lcLoop (.nm 3) fYes (fFn 2 (run (k+1) 19) (fCons (fVar 2) (fCons (fVar 3) fNil))) [e0, e1, .val (f.d false), .un, e4] (ls.map pl) μ (Fm.ds false acc) = .ok (Fm.ds false (acc ++ ls.map (subAt f))) μ
  | [], acc, _ => by simp [lcLoop]
  | l :: ls, acc, h => by
    obtain ⟨g, hg⟩ := spots_pt f l (h l List.mem_cons_self)
    have A := at_ok k l f g μ hg
    have e : subAt f l = g := by simp [subAt, hg]
    have ih := sub_loop k f e0 e1 e4 μ ls (acc ++ [g]) fun x hx => h x (List.mem_cons_of_mem _ hx)
    rw [ds_app] at ih
    simp only [Fm.ds, List.append_assoc, List.singleton_append] at ih
    rw [List.map_cons, Gn.lc_yes (env' := [e0, e1, .val (f.d false), .val (pl l), e4]) (x := g.d false) (μ1 := μ) rfl (by simp [fFn, fCons, fVar, fNil, Res.bind, A]), ih, List.map_cons, e]
abbrev bitB (k : Nat) : FS := (fSet 1 (fMv (fB gCat (fVar 1) (fLc (fAny (fSl gSlN (fFn 1 (run k 18) (fCons (fVar 2) fNil)) (fSomeO (fC (.int 1))) fNoO)) (.nm 3) fYes (fFn 2 (run k 19) (fCons (fVar 2) (fCons (fVar 3) fNil))) [3]))))
theorem bit_loop (k : Nat) (hk : 14 ≤ k) (e0 : EV) (μ : Mu) : ∀ (fs acc : List Fm) (e2 : EV), Fm.fines fs = true → Fm.dps fs ≤ 9 → acc.length + Fm.szs fs ≤ 1000 →
    ∃ a2, loop (.nm 2) (bitB (k+1)) (Fm.ds false fs) [e0, .val (.lst (Fm.ds false acc)), e2, .un, .un] μ = .nxt [e0, .val (.lst (Fm.ds false (acc ++ subss fs))), a2, .un, .un] μ
  | [], acc, e2, _, _, _ => ⟨e2, by simp [Fm.ds, loop, subss]⟩
  | f :: fs, acc, e2, hf, hd, hl => by
    have hf := fines_cons hf
    simp only [Fm.szs] at hl
    simp only [Fm.dps] at hd
    have sp := spots_ok (k+1) f μ (by omega) (by omega) (by omega)
    have sl := subs_len f
    obtain ⟨a2, ih⟩ := bit_loop k hk e0 μ fs (acc ++ subs f) (.val (f.d false)) hf.2 (by omega) (by simp only [List.length_append]; omega)
    refine ⟨a2, ?_⟩
    have L := sub_loop k f e0 (.val (.lst (Fm.ds false acc))) .un μ ((spots f).drop 1) [] fun l h => List.mem_of_mem_drop h
    have I : fAny (fSl gSlN (fFn 1 (run (k+1) 18) (fCons (fVar 2) fNil)) (fSomeO (fC (.int 1))) fNoO) [e0, .val (.lst (Fm.ds false acc)), .val (f.d false), .un, .un] μ = .ok (((spots f).drop 1).map pl) μ := by
      have c := Gn.cut_from ((spots f).map pl) 1
      have c : cut ((spots f).map pl) (some (1 : Int)) none = _ := c
      simp [fAny, fSl, gSlN, fFn, fCons, fVar, fNil, fSomeO, fNoO, fC, Res.bind, sp, sq, c, List.map_drop]
    have sz : (spots f).length ≤ 1000 := by rw [spots_len]; omega
    have C := fLc_eq (vs := [3]) (t := .nm 3) (ft := fYes) (fe := fFn 2 (run (k+1) 19) (fCons (fVar 2) (fCons (fVar 3) fNil))) I (by simp only [List.length_map, List.length_drop, LIM]; omega) L
    have V : fVar 1 [e0, .val (.lst (Fm.ds false acc)), .val (f.d false), .un, .un] μ = .ok (.val (.lst (Fm.ds false acc))) μ := rfl
    have G := fB_eq gCat V C
    have z : acc.length + (subs f).length ≤ 16777216 := by omega
    have G : fB gCat (fVar 1) (fLc (fAny (fSl gSlN (fFn 1 (run (k+1) 18) (fCons (fVar 2) fNil)) (fSomeO (fC (.int 1))) fNoO)) (.nm 3) fYes (fFn 2 (run (k+1) 19) (fCons (fVar 2) (fCons (fVar 3) fNil))) [3]) [e0, .val (.lst (Fm.ds false acc)), .val (f.d false), .un, .un] μ = .ok (.val (.lst (Fm.ds false (acc ++ subs f)))) μ := by
      rw [G]
      simp only [gCat, sqM, List.nil_append, ds_len, LIM]
      have e : (((spots f).drop 1).map (subAt f)) = subs f := rfl
      rw [e, if_pos z, ds_app]
    rw [show subss (f :: fs) = subs f ++ subss fs from rfl, ← List.append_assoc, ← ih]
    exact Gn.loop_nxt (t := .nm 2) (b := bitB (k+1)) (env1 := [e0, .val (.lst (Fm.ds false acc)), .val (f.d false), .un, .un]) rfl (Gn.fSetE G)
theorem bits_ok (k : Nat) (hk : 14 ≤ k) (b : Bool) (fs : List Fm) (μ : Mu) (hf : Fm.fines fs = true) (hd : Fm.dps fs ≤ 7) (hl : Fm.szs fs ≤ 63) :
    ∃ gs : List Fm, run (k+2) 46 [sqd b (Fm.ds false fs)] μ = .ok (.own (Fm.ds false gs)) μ ∧ gs.length + fs.length ≤ Fm.szs fs ∧ (∀ g ∈ gs, g.fine = true ∧ isop g = false ∧ ∃ f ∈ fs, g.dp ≤ f.dp ∧ g.sz ≤ f.sz) := by
  have e : run (k+2) 46 = runOf 5 (b46 (run (k+1))) := rfl
  rw [e]
  let c : Fm → Bool := fun f => !isop f
  let T := (subss fs).filter c
  have sl := subss_len fs
  have memT : ∀ g ∈ T, g.fine = true ∧ isop g = false ∧ ∃ f ∈ fs, g.dp ≤ f.dp ∧ g.sz ≤ f.sz := fun g hg => by
    obtain ⟨h1, h2⟩ := List.mem_filter.mp hg
    obtain ⟨f, hf1, hf2⟩ := subss_mem h1
    have := subs_mem hf2 (fines_mem hf hf1)
    exact ⟨this.1, by simpa [c] using h2, f, hf1, this.2⟩
  have Tl : T.length ≤ (subss fs).length := List.length_filter_le _ _
  have Tf : Fm.fines T = true := fines_of fun g hg => (memT g hg).1
  have Td : Fm.dps T ≤ 7 := dps_of fun g hg => by
    obtain ⟨_, _, f, h1, h2, _⟩ := memT g hg
    have := dps_mem h1
    omega
  obtain ⟨gs, g1, g2, g3, _⟩ := sset_f T
  obtain ⟨a2, L⟩ := bit_loop k hk (.val (sqd b (Fm.ds false fs))) μ fs [] .un hf (by omega) (by simp; omega)
  refine ⟨gs, ?_, by omega, fun g hg => memT g (g2 g hg)⟩
  refine Gn.runOf_ret [.val (sqd b (Fm.ds false fs)), .un, .un, .un, .un] rfl ?_
  unfold b46
  have F1 : fSet 1 (fMv (fLst fNil)) [.val (sqd b (Fm.ds false fs)), .un, .un, .un, .un] μ = .nxt [.val (sqd b (Fm.ds false fs)), .val (.lst (Fm.ds false [])), .un, .un, .un] μ := by
    simp [fSet, fMv, fLst, fNil, Res.bind, Res.to, Fm.ds]
  have F2 : fAny (fVar 0) [.val (sqd b (Fm.ds false fs)), .val (.lst (Fm.ds false [])), .un, .un, .un] μ = .ok (Fm.ds false fs) μ := by
    cases b <;> simp [fAny, fVar, sqd]
  have F3 := Gn.fFor_nxt (t := .nm 2) (fb := bitB (k+1)) F2 L
  rw [fSeq_nxt F1]
  refine (fSeq_nxt F3).trans ?_
  rw [List.nil_append]
  have P : ∀ x ∈ subss fs, x.ok = true := fun x hx => by
    obtain ⟨f, hf1, hf2⟩ := subss_mem hx
    exact fine_ok x (subs_mem hf2 (fines_mem hf hf1)).1
  have F := Gn.flt 4 (fTB (fB gNe (fVar 4) (fTup fNil))) [.val (sqd b (Fm.ds false fs)), .val (.lst (Fm.ds false (subss fs))), a2, .un, .un] (fun x : Fm => x.d false) c μ (by simp) (subss fs) [] fun x hx => by
    have N := isNop x (P x hx) [.val (sqd b (Fm.ds false fs)), .val (.lst (Fm.ds false (subss fs))), a2, .un, .val (x.d false)] μ
    simp [fTB, fB, fVar, fTup, fNil, Res.bind, LIM, N, c]
  rw [ds_map] at F
  have C := fLc_eq (fi := fAny (fVar 1)) (t := .nm 4) (vs := [4]) (env := [.val (sqd b (Fm.ds false fs)), .val (.lst (Fm.ds false (subss fs))), a2, .un, .un]) (μ := μ) (by simp [fAny, fVar]) (by rw [ds_len, LIM]; omega) F
  rw [List.nil_append, ds_map] at C
  have S := fSset_val C (setOk_f Tf Td (by show T.length < 64; omega))
  have g1 : sset (Fm.ds false ((subss fs).filter c)) = Fm.ds false gs := g1
  rw [g1] at S
  simp [fRet, fMo, S, Res.bind, Res.to]
end Kx

set_option linter.all false
set_option maxRecDepth 100000
set_option maxHeartbeats 4000000
namespace Kx
open PySem Q
/-! ### a drawn page -/
theorem bx_noLst {N : Nat} {μ : Mu} (h : Gn.Bx N μ) : noLstM μ = true := by
  obtain ⟨a, b, c, rfl, _⟩ := h
  rfl
theorem bx_noLoc {N : Nat} {μ : Mu} (h : Gn.Bx N μ) : noLocM μ = true := by
  obtain ⟨a, b, c, rfl, _⟩ := h
  rfl
mutual
theorem noLst_f : ∀ f : Fm, noLst (f.d false) = true
  | .op => rfl
  | .nd s ps => by simp only [Fm.d, sqd, noLst, noLsts, noLsts_f ps, Bool.and_self]
theorem noLsts_f : ∀ ps : List Fm, noLsts (Fm.ds false ps) = true
  | [] => rfl
  | p :: ps => by simp only [Fm.ds, noLsts, noLst_f p, noLsts_f ps, Bool.and_self]
end
def sideP (f : Fm) : Prop := f.fine = true ∧ f.dp ≤ 3 ∧ f.sz ≤ 7 ∧ isop f = false
theorem side_sz : ∀ {fs : List Fm}, (∀ f ∈ fs, sideP f) → Fm.szs fs ≤ 7 * fs.length
  | [], _ => by simp [Fm.szs]
  | f :: fs, h => by
    have a := side_sz fun x hx => h x (List.mem_cons_of_mem _ hx)
    have b := (h f List.mem_cons_self).2.2.1
    simp only [Fm.szs, List.length_cons]; omega
theorem side_fines {fs : List Fm} (h : ∀ f ∈ fs, sideP f) : Fm.fines fs = true ∧ Fm.dps fs ≤ 3 := ⟨fines_of fun f hf => (h f hf).1, dps_of fun f hf => (h f hf).2.1⟩
theorem page_loop (k : Nat) (e1 e2 e4 e5 : EV) : ∀ (m : Nat) (i : Int) (ps : List Fm) (N : Nat) (μ : Mu), (∀ p ∈ ps, sideP p) → N + m * 10 ≤ 1000000000000 → Gn.Bx N μ →
    ∃ (qs : List Fm) (μ' : Mu), lcLoop (.nm 3) fYes (fFn 1 (run (k+3) 49) (fCons (fVar 0) fNil)) [.val (.loc 0), e1, e2, .un, e4, e5] (rangeD i m) μ (Fm.ds false ps) = .ok (Fm.ds false qs) μ' ∧ qs.length = ps.length + m ∧ (∀ p ∈ qs, sideP p) ∧ Gn.Bx (N + m * 10) μ'
  | 0, i, ps, N, μ, h, _, hb => ⟨ps, μ, by simp [rangeD, lcLoop], rfl, h, by simpa using hb⟩
  | m + 1, i, ps, N, μ, h, hN, hb => by
    obtain ⟨f, μ1, E, f1, f2, f3, f4, hb1⟩ := side_ok k N μ (by omega) hb
    obtain ⟨qs, μ', L, q1, q2, q3⟩ := page_loop k e1 e2 e4 e5 m (i + 1) (ps ++ [f]) (N + 10) μ1
      (fun p hp => by
        rcases List.mem_append.mp hp with hp | hp
        · exact h p hp
        · rw [List.mem_singleton.mp hp]; exact ⟨f1, f2, f3, f4⟩) (by omega) hb1
    refine ⟨qs, μ', ?_, by rw [q1, List.length_append, List.length_singleton]; omega, q2, q3.up (by omega)⟩
    rw [ds_app] at L
    simp only [Fm.ds] at L
    simp only [rangeD]
    rw [Gn.lc_yes (env' := [.val (.loc 0), e1, e2, .val (.int i), e4, e5]) (x := f.d false) (μ1 := μ1) rfl (by simp [fFn, fCons, fVar, fNil, Res.bind, E])]
    exact L
theorem page_ok (k c N : Nat) (μ : Mu) (hk : 16 ≤ k) (c1 : 1 ≤ c) (c2 : c ≤ 5) (hN : N + 100 ≤ 1000000000000) (hb : Gn.Bx N μ) :
    ∃ (ss : List Fm) (μ' : Mu), run (k+4) 50 [.loc 0, .int (c : Int)] μ = .ok (.val (.tup (Fm.ds false ss))) μ' ∧ (∀ f ∈ ss, sideP f) ∧ ss ≠ [] ∧ ss.length ≤ 6 ∧ Gn.Bx (N + 100) μ' := by
  have e : run (k+4) 50 = runOf 6 (b50 (run (k+3))) := rfl
  rw [e]
  let x1 : EV := .val (.int (c : Int))
  obtain ⟨ps, μ1, L1, p1, p2, hb1⟩ := page_loop k x1 .un .un .un c 0 [] N μ (fun p hp => by cases hp) (by omega) hb
  have p1 : ps.length = c := by simpa using p1
  have pz := side_sz p2
  obtain ⟨pf, pd⟩ := side_fines p2
  obtain ⟨gs, B, g1, g2⟩ := bits_ok (k+1) (by omega) true ps μ1 pf (by omega) (by omega)
  have B : run (k+3) 46 [.lst (Fm.ds false ps)] μ1 = .ok (.own (Fm.ds false gs)) μ1 := B
  have gS : ∀ g ∈ gs, sideP g := fun g hg => by
    obtain ⟨a, b, f, h1, h2, h3⟩ := g2 g hg
    have := p2 f h1
    exact ⟨a, by have := this.2.1; omega, by have := this.2.2.1; omega, b⟩
  obtain ⟨gf, gd⟩ := side_fines gS
  let x4 : EV := .val (.lst (Fm.ds false gs))
  have F1 : fSet 2 (fMo (fLc (fRng1 (fVar 1)) (.nm 3) fYes (fFn 1 (run (k+3) 49) (fCons (fVar 0) fNil)) [3])) [.val (.loc 0), x1, .un, .un, .un, .un] μ = .nxt [.val (.loc 0), x1, .own (Fm.ds false ps), .un, .un, .un] μ1 := by
    have C := fLc_eq (vs := [3]) (Gn.fRng1_eq (fa := fVar 1) (env := [.val (.loc 0), x1, .un, .un, .un, .un]) (μ := μ) (n := c) rfl (by omega)) (by rw [rangeD_len, LIM]; omega) L1
    simp [fSet, fMo, C, Res.bind, Res.to]
  have F2 : fSet 4 (fMv (fLc (fAny (fFrN 2 (fFnN 1 (run (k+3) 46) (fCons (fVar 2) fNil)))) (.nm 5) fYes (fVar 5) [5])) [.val (.loc 0), x1, .own (Fm.ds false ps), .un, .un, .un] μ1 = .nxt [.val (.loc 0), x1, .own (Fm.ds false ps), .un, x4, .un] μ1 := by
    have I : fAny (fFrN 2 (fFnN 1 (run (k+3) 46) (fCons (fVar 2) fNil))) [.val (.loc 0), x1, .own (Fm.ds false ps), .un, .un, .un] μ1 = .ok (Fm.ds false gs) μ1 := by
      simp [fAny, fFrN, fFnN, fCons, fVar, fNil, Res.bind, B, noLsts_f, bx_noLst hb1]
    have F := Gn.flt 5 fYes [.val (.loc 0), x1, .own (Fm.ds false ps), .un, .un, .un] (fun x : Fm => x.d false) (fun _ => true) μ1 (by simp) gs [] fun x hx => rfl
    rw [ds_map, List.nil_append, ds_map, List.filter_eq_self.mpr (fun _ _ => rfl)] at F
    have C := fLc_eq (t := .nm 5) (vs := [5]) I (by rw [ds_len, LIM]; omega) F
    exact Gn.fSetE C
  have T1 : fTB (fB gNe (fVar 4) (fLst fNil)) [.val (.loc 0), x1, .own (Fm.ds false ps), .un, x4, .un] μ1 = .ok (!gs.isEmpty) μ1 := by
    have q := gNe_plain (a := .lst (Fm.ds false gs)) (b := .lst []) (env := [.val (.loc 0), x1, .own (Fm.ds false ps), .un, x4, .un]) (μ := μ1) (by simpa [D.plain] using plain_ds false gs (fines_oks gs gf)) rfl (by simp [D.dep, D.deps]) (fun n z => by cases z) (fun n z => by cases z)
    have v : fVar 4 [.val (.loc 0), x1, .own (Fm.ds false ps), .un, x4, .un] μ1 = .ok (.val (.lst (Fm.ds false gs))) μ1 := rfl
    have w : fLst fNil [.val (.loc 0), x1, .own (Fm.ds false ps), .un, x4, .un] μ1 = .ok (.val (.lst [])) μ1 := by simp [fLst, fNil, Res.bind]
    have g := fB_eq gNe v w
    rw [q] at g
    simp only [D.eq, eqs_nil] at g
    have g' : (Fm.ds false gs).isEmpty = gs.isEmpty := by cases gs <;> rfl
    rw [g'] at g
    exact Gn.fTB_eq g
  obtain ⟨qs, μ2, q1, q2, q3, hb2, F3⟩ : ∃ (qs : List Fm) (μ2 : Mu), (∀ f ∈ qs, sideP f) ∧ qs ≠ [] ∧ qs.length ≤ 6 ∧ Gn.Bx (N + 100) μ2 ∧ fIfS (fAnd (fTB (fB gNe (fVar 4) (fLst fNil))) (fTB (fB gEq (fFn 2 (run (k+3) 12) (fCons (fVar 0) (fCons (fC (.int 3)) fNil))) (fC (.int 0))))) (fApp 2 (fFn 2 (run (k+3) 14) (fCons (fVar 0) (fCons (fVar 4) fNil)))) fNext [.val (.loc 0), x1, .own (Fm.ds false ps), .un, x4, .un] μ1 = .nxt [.val (.loc 0), x1, .own (Fm.ds false qs), .un, x4, .un] μ2 := by
    have ne : ps ≠ [] := by intro z; subst z; simp at p1; omega
    cases hg : gs.isEmpty with
    | true =>
      refine ⟨ps, μ1, p2, ne, by omega, hb1.up (by omega), Gn.fIf_n ?_⟩
      rw [Gn.fAnd_eq T1, hg]; rfl
    | false =>
      obtain ⟨r, μ2, et, hr, hb2⟩ := take1 (k+2) 3 (N + c * 10) μ1 (by omega) (by omega) (by omega) hb1
      have T2 : fTB (fB gEq (fFn 2 (run (k+3) 12) (fCons (fVar 0) (fCons (fC (.int 3)) fNil))) (fC (.int 0))) [.val (.loc 0), x1, .own (Fm.ds false ps), .un, x4, .un] μ1 = .ok (decide ((r : Int) = 0)) μ2 := by
        simp [fTB, fB, fFn, fCons, fVar, fC, fNil, Res.bind, et, Gn.gEq_int]
      have T : fAnd (fTB (fB gNe (fVar 4) (fLst fNil))) (fTB (fB gEq (fFn 2 (run (k+3) 12) (fCons (fVar 0) (fCons (fC (.int 3)) fNil))) (fC (.int 0)))) [.val (.loc 0), x1, .own (Fm.ds false ps), .un, x4, .un] μ1 = .ok (decide ((r : Int) = 0)) μ2 := by
        rw [Gn.fAnd_eq T1, hg]; exact T2
      by_cases h0 : (r : Int) = 0
      · rw [decide_eq_true h0] at T
        have gl : 0 < gs.length := by cases gs with | nil => simp at hg | cons g gs => simp
        obtain ⟨d, μ3, hd, E, hb3⟩ := of1 (k+1) (Fm.ds false gs) (by rw [ds_len]; exact gl) (by rw [ds_len]; omega) (N + c * 10 + 1) (by omega) μ2 hb2
        rw [← ds_map] at hd
        obtain ⟨g, hg', rfl⟩ := List.mem_map.mp hd
        refine ⟨ps ++ [g], μ3, fun f hf => ?_, by simp, by simp only [List.length_append, List.length_singleton]; omega, hb3.up (by omega), ?_⟩
        · rcases List.mem_append.mp hf with hf | hf
          · exact p2 f hf
          · rw [List.mem_singleton.mp hf]; exact gS g hg'
        · rw [Gn.fIf_t T, ds_app]
          have z : ps.length < 16777216 := by omega
          simp [x4, fApp, getL, putL, fFn, fCons, fVar, fNil, Res.bind, Res.to, LIM, E, ds_len, z, Fm.ds]
      · rw [decide_eq_false h0] at T
        exact ⟨ps, μ2, p2, ne, by omega, hb2.up (by omega), Gn.fIf_n T⟩
  obtain ⟨ss, s1, s2, s3, s4⟩ := sset_f qs
  refine ⟨ss, μ2, ?_, fun f hf => q1 f (s2 f hf), s4 q2, by omega, hb2⟩
  refine Gn.runOf_ret [.val (.loc 0), x1, .un, .un, .un, .un] rfl ?_
  unfold b50
  rw [fSeq_nxt F1, fSeq_nxt F2, fSeq_nxt F3]
  obtain ⟨qf, qd⟩ := side_fines q1
  have S := fSset_val (f := fVar 2) (env := [.val (.loc 0), x1, .val (.lst (Fm.ds false qs)), .un, x4, .un]) (μ := μ2) (μ1 := μ2) (ds := Fm.ds false qs) rfl (setOk_f qf (by omega) (by omega))
  rw [s1] at S
  show fRet (fMv (fCall gTuple (fConsr (fSset' (fVar 2)) fNilr))) [.val (.loc 0), x1, .val (.lst (Fm.ds false qs)), .un, x4, .un] μ2 = _
  exact Gn.fRetE (fTupCall S)
end Kx

set_option linter.all false
set_option maxRecDepth 100000
set_option maxHeartbeats 4000000
namespace Kx
open PySem Q
/-! ### the signs of a page -/
def sgOf : Fm → Sg
  | .op => ("a", 0)
  | .nd s ps => (s, ps.length)
theorem sgOf_ok {f : Fm} (hf : f.fine = true) : (sgOf f).1 ∈ names ∧ (sgOf f).2 ≤ 3 := by
  cases f with
  | op => exact ⟨by decide +kernel, by decide⟩
  | nd s ps => exact ⟨(fine_nd hf).1, (fine_nd hf).2.1⟩
abbrev sgE (i : Nat) : FE := (fTup (fCons (fB gIx (fVar i) (fC (.int 0))) (fCons (fB gSub (fCall gLen (fConsr (fVar i) fNilr)) (fC (.int 1))) fNil)))
theorem sg_expr (i : Nat) (f : Fm) (h : isop f = false) (hf : f.fine = true) (env : En) (μ : Mu) (he : env[i]? = some (.val (f.d false))) : sgE i env μ = .ok (.val (sgD (sgOf f))) μ := by
  cases f with
  | op => cases h
  | nd s ps =>
    have l := (fine_nd hf).2.1
    have z : ps.length + 1 ≤ 16777216 := by omega
    simp only [Fm.d, sqd] at he
    simp [sgE, fTup, fCons, fB, fVar, fC, fNil, fCall, fConsr, fNilr, gIx, gLen, gSub, gI0, sq, SqD.items, he, L2.atI, L2.ixN, Res.bind, LIM, ds_len, z, sgOf, sgD]
theorem sg_loop (e0 e1 e3 : EV) (μ : Mu) : ∀ (fs : List Fm) (acc : List D), (∀ f ∈ fs, f.fine = true ∧ isop f = false) →
    lcLoop (.nm 2) fYes (sgE 2) [e0, e1, .un, e3] (Fm.ds false fs) μ acc = .ok (acc ++ (fs.map sgOf).map sgD) μ
  | [], acc, _ => by simp [Fm.ds, lcLoop]
  | f :: fs, acc, h => by
    have ih := sg_loop e0 e1 e3 μ fs (acc ++ [sgD (sgOf f)]) fun x hx => h x (List.mem_cons_of_mem _ hx)
    have hf := h f List.mem_cons_self
    simp only [Fm.ds]
    rw [Gn.lc_yes (env' := [e0, e1, .val (f.d false), e3]) (x := sgD (sgOf f)) (μ1 := μ) rfl (sg_expr 2 f hf.2 hf.1 _ μ rfl), ih]
    simp
theorem sga_loop (e0 e2 : EV) (μ : Mu) : ∀ (fs : List Fm) (S : List Sg) (e3 : EV), (∀ f ∈ fs, f.fine = true ∧ isop f = false) → S.length + fs.length ≤ 1000 →
    ∃ a3, loop (.nm 3) (fApp 1 (sgE 3)) (Fm.ds false fs) [e0, .own (S.map sgD), e2, e3] μ = .nxt [e0, .own ((S ++ fs.map sgOf).map sgD), e2, a3] μ
  | [], S, e3, _, _ => ⟨e3, by simp [Fm.ds, loop]⟩
  | f :: fs, S, e3, h, hl => by
    simp only [List.length_cons] at hl
    obtain ⟨a3, ih⟩ := sga_loop e0 e2 μ fs (S ++ [sgOf f]) (.val (f.d false)) (fun x hx => h x (List.mem_cons_of_mem _ hx)) (by simp only [List.length_append, List.length_singleton]; omega)
    have hf := h f List.mem_cons_self
    refine ⟨a3, ?_⟩
    have E := sg_expr 3 f hf.2 hf.1 [e0, .own (S.map sgD), e2, .val (f.d false)] μ rfl
    have z : S.length < 16777216 := by omega
    have A : fApp 1 (sgE 3) [e0, .own (S.map sgD), e2, .val (f.d false)] μ = .nxt [e0, .own ((S ++ [sgOf f]).map sgD), e2, .val (f.d false)] μ := by
      unfold fApp
      rw [E]
      simp [getL, putL, Res.to, LIM, z]
    simp only [Fm.ds]
    refine (Gn.loop_nxt (t := .nm 3) (b := fApp 1 (sgE 3)) (env1 := [e0, .own (S.map sgD), e2, .val (f.d false)]) rfl A).trans ?_
    rw [ih]
    simp
theorem signs_ok (k : Nat) (hk : 16 ≤ k) (ss : List Fm) (μ : Mu) (h : ∀ f ∈ ss, sideP f) (hl : ss.length ≤ 6) :
    ∃ S : List Sg, run (k+3) 52 [.tup (Fm.ds false ss)] μ = .ok (.own (S.map sgD)) μ ∧ okS S := by
  have e : run (k+3) 52 = runOf 4 (b52 (run (k+2))) := rfl
  rw [e]
  have sz := side_sz h
  obtain ⟨sf, sd⟩ := side_fines h
  have al : ∀ f ∈ ss, f.fine = true ∧ isop f = false := fun f hf => ⟨(h f hf).1, (h f hf).2.2.2⟩
  obtain ⟨gs, B, g1, g2⟩ := bits_ok k (by omega) false ss μ sf (by omega) (by omega)
  have B : run (k+2) 46 [.tup (Fm.ds false ss)] μ = .ok (.own (Fm.ds false gs)) μ := B
  have ag : ∀ g ∈ gs, g.fine = true ∧ isop g = false := fun g hg => ⟨(g2 g hg).1, (g2 g hg).2.1⟩
  let S1 := ss.map sgOf
  let S2 := S1 ++ gs.map sgOf
  have n1 : ∀ s ∈ S1, s.1 ∈ names ∧ s.2 ≤ 3 := fun s hs => by
    obtain ⟨f, hf, rfl⟩ := List.mem_map.mp hs
    exact sgOf_ok (al f hf).1
  have n2 : ∀ s ∈ S2, s.1 ∈ names ∧ s.2 ≤ 3 := fun s hs => by
    rcases List.mem_append.mp hs with hs | hs
    · exact n1 s hs
    · obtain ⟨f, hf, rfl⟩ := List.mem_map.mp hs
      exact sgOf_ok (ag f hf).1
  have l1 : S1.length = ss.length := List.length_map ..
  have l2 : S2.length = ss.length + gs.length := by simp [S2, S1]
  let x0 : EV := .val (.tup (Fm.ds false ss))
  have C1 := fLc_eq (fi := fAny (fVar 0)) (t := .nm 2) (vs := [2]) (env := [x0, .un, .un, .un]) (μ := μ) (μ1 := μ) (ds := Fm.ds false ss) (by simp [x0, fAny, fVar]) (by rw [ds_len, LIM]; omega) (sg_loop x0 .un .un μ ss [] al)
  rw [List.nil_append] at C1
  have F1 : fSet 1 (fMo (fLc (fAny (fVar 0)) (.nm 2) fYes (sgE 2) [2])) [x0, .un, .un, .un] μ = .nxt [x0, .own (S1.map sgD), .un, .un] μ := by
    have C1 : fLc (fAny (fVar 0)) (.nm 2) fYes (sgE 2) [2] [x0, .un, .un, .un] μ = .ok (.val (.lst (S1.map sgD))) μ := C1
    unfold fSet fMo
    rw [C1]
    simp [Res.bind, Res.to]
  obtain ⟨a3, L⟩ := sga_loop x0 .un μ gs S1 .un ag (by omega)
  have I : fAny (fFnN 1 (run (k+2) 46) (fCons (fVar 0) fNil)) [x0, .own (S1.map sgD), .un, .un] μ = .ok (Fm.ds false gs) μ := by
    simp [x0, fAny, fFnN, fCons, fVar, fNil, Res.bind, B]
  have F2 := Gn.fFor_nxt (t := .nm 3) (fb := fApp 1 (sgE 3)) I L
  have C2 := fLc_eq (fi := fAny (fVar 0)) (t := .nm 2) (vs := [2]) (env := [x0, .val (.lst (S2.map sgD)), .un, a3]) (μ := μ) (μ1 := μ) (ds := Fm.ds false ss) (by simp [x0, fAny, fVar]) (by rw [ds_len, LIM]; omega) (sg_loop x0 (.val (.lst (S2.map sgD))) a3 μ ss [] al)
  rw [List.nil_append] at C2
  have K1 := fSset_val (f := fVar 1) (env := [x0, .val (.lst (S2.map sgD)), .un, a3]) (μ := μ) (μ1 := μ) (ds := S2.map sgD) rfl (setOk_sg (fun s hs => (n2 s hs).1) (by omega))
  have K2 := fSset_val C2 (setOk_sg (S := S1) (fun s hs => (n1 s hs).1) (by omega))
  obtain ⟨T1, t1, t2, t3⟩ := sset_sg S2
  obtain ⟨T2, u1, u2, u3⟩ := sset_sg S1
  have u1 : sset ((ss.map sgOf).map sgD) = T2.map sgD := u1
  rw [t1] at K1
  rw [u1] at K2
  refine ⟨T1 ++ T2 ++ [((("a" : Str), 0) : Sg), ((("end" : Str), 0) : Sg)], ?_, by simp only [List.length_append, List.length_cons, List.length_nil]; omega, fun s hs => ?_⟩
  · refine Gn.runOf_ret [x0, .un, .un, .un] rfl ?_
    unfold b52
    refine (fSeq_nxt F1).trans ((fSeq_nxt F2).trans ?_)
    show fRet (fMo _) [x0, .val (.lst (S2.map sgD)), .un, a3] μ = _
    have G1 := fB_eq gCat K1 K2
    have z1 : T1.length + T2.length ≤ 16777216 := by omega
    have z2 : T1.length + T2.length + 2 ≤ 16777216 := by omega
    simp only [gCat, sqM, List.length_map, LIM, if_pos z1] at G1
    have W : fLst (fCons (fTup (fCons (fC (.str "a")) (fCons (fC (.int 0)) fNil))) (fCons (fTup (fCons (fC (.str "end")) (fCons (fC (.int 0)) fNil))) fNil)) [x0, .val (.lst (S2.map sgD)), .un, a3] μ = .ok (.val (.lst [sgD ("a", 0), sgD ("end", 0)])) μ := by
      simp [fLst, fTup, fCons, fC, fNil, Res.bind, LIM, sgD]
    have G2 := fB_eq gCat G1 W
    simp only [gCat, sqM, List.length_append, List.length_map, List.length_cons, List.length_nil, LIM, if_pos z2] at G2
    unfold fRet fMo
    rw [G2]
    simp [Res.bind, Res.to]
  · rcases List.mem_append.mp hs with hs | hs
    · rcases List.mem_append.mp hs with hs | hs
      · exact n2 s (t2 s hs)
      · exact n1 s (u2 s hs)
    · simp only [List.mem_cons, List.not_mem_nil, or_false] at hs
      rcases hs with rfl | rfl
      · exact ⟨by decide +kernel, by decide⟩
      · exact ⟨by decide +kernel, by decide⟩
end Kx

set_option linter.all false
set_option maxRecDepth 100000
set_option maxHeartbeats 4000000
namespace Kx
open PySem Q
/-! ### the draws of the law -/
theorem pl_eq (m l : List Nat) : D.eq (pl m) (pl l) = decide (m = l) := by simp only [pl, D.eq, pl_eqs]
theorem inD_pl (l : List Nat) : ∀ ls : List (List Nat), inD (pl l) (ls.map pl) = decide (l ∈ ls)
  | [] => rfl
  | m :: ls => by
    have ih := inD_pl l ls
    unfold inD at ih ⊢
    rw [List.map_cons, List.any_cons, pl_eq, ih]
    by_cases h : m = l
    · simp [h]
    · have h' : ¬ l = m := fun e => h e.symm
      simp [h, h']
theorem in_spots (l : List Nat) (ls : List (List Nat)) (env : En) (μ : Mu) : gIn false env (.val (pl l)) (.val (.lst (ls.map pl))) μ = .ok (.val (.bl (decide (l ∈ ls)))) μ := by
  have h1 := pl_pl l
  have h2 := plains_pl ls
  have h3 : min (D.deps (ls.map pl)) (D.dep (pl l)) ≤ 63 := by rw [pl_d1]; omega
  have h4 := inD_pl l ls
  have r : rd env μ (.val (pl l)) = some (pl l) := by simp [rd, pl]
  simp only [gIn, r, sq, SqD.items, h1, h2, h3, h4, decide_true, Bool.and_self, if_true, Bool.false_bne]
theorem lift_map {α β : Type} {g : α → β} {T : List α} : ∀ {es : List β}, (∀ e ∈ es, e ∈ T.map g) → ∃ ls : List α, es = ls.map g ∧ ∀ l ∈ ls, l ∈ T
  | [], _ => ⟨[], rfl, fun _ h => by cases h⟩
  | e :: es, h => by
    obtain ⟨l, hl, he⟩ := List.mem_map.mp (h e List.mem_cons_self)
    obtain ⟨ls, q1, q2⟩ := lift_map fun x hx => h x (List.mem_cons_of_mem _ hx)
    refine ⟨l :: ls, by rw [q1, List.map_cons, he], fun x hx => ?_⟩
    rcases List.mem_cons.mp hx with e | hx
    · rw [e]; exact hl
    · exact q2 x hx
abbrev putB (rs rt rp : RunF) : FS := (fIfS (fAnd (fTB (fB (gIn false) (fVar 8) (fFn 1 rs (fCons (fVar 7) fNil)))) (fOr (fTB (fB gNe (fVar 8) (fTup fNil))) (fTB (fB gEq (fFn 2 rt (fCons (fVar 0) (fCons (fC (.int 4)) fNil))) (fC (.int 0)))))) (fSet 7 (fMv (fFn 3 rp (fCons (fVar 7) (fCons (fVar 8) (fCons (fTup fNil) fNil)))))) fNext)
theorem put_loop (k : Nat) (hk : 14 ≤ k) (e1 e2 e3 e4 e5 e6 : EV) : ∀ (ls : List (List Nat)) (f : Fm) (e8 : EV) (N : Nat) (μ : Mu), f.fine = true → f.dp ≤ 9 → N + ls.length ≤ 1000000000000 → Gn.Bx N μ →
    ∃ (g : Fm) (a8 : EV) (μ' : Mu), loop (.nm 8) (putB (run k 18) (run k 12) (run k 20)) (ls.map pl) [.val (.loc 0), e1, e2, e3, e4, e5, e6, .val (f.d false), e8] μ = .nxt [.val (.loc 0), e1, e2, e3, e4, e5, e6, .val (g.d false), a8] μ' ∧ g.fine = true ∧ g.dp ≤ f.dp ∧ Gn.Bx (N + ls.length) μ'
  | [], f, e8, N, μ, hf, hd, _, hb => ⟨f, e8, μ, rfl, hf, Nat.le_refl _, hb⟩
  | l :: ls, f, e8, N, μ, hf, hd, hN, hb => by
    simp only [List.length_cons] at hN
    have sp := spots_ok k f μ (by omega) (by omega) (fine_sz9 hf hd)
    have T1 : fTB (fB (gIn false) (fVar 8) (fFn 1 (run k 18) (fCons (fVar 7) fNil))) [.val (.loc 0), e1, e2, e3, e4, e5, e6, .val (f.d false), .val (pl l)] μ = .ok (decide (l ∈ spots f)) μ := by
      simp [fTB, fB, fVar, fFn, fCons, fNil, Res.bind, sp, in_spots]
    have go : ∀ (μ1 : Mu) (b : Bool), Gn.Bx (N + 1) μ1 → fAnd (fTB (fB (gIn false) (fVar 8) (fFn 1 (run k 18) (fCons (fVar 7) fNil)))) (fOr (fTB (fB gNe (fVar 8) (fTup fNil))) (fTB (fB gEq (fFn 2 (run k 12) (fCons (fVar 0) (fCons (fC (.int 4)) fNil))) (fC (.int 0))))) [.val (.loc 0), e1, e2, e3, e4, e5, e6, .val (f.d false), .val (pl l)] μ = .ok b μ1 → (b = true → l ∈ spots f) → ∃ (g : Fm) (a8 : EV) (μ' : Mu), loop (.nm 8) (putB (run k 18) (run k 12) (run k 20)) ((l :: ls).map pl) [.val (.loc 0), e1, e2, e3, e4, e5, e6, .val (f.d false), e8] μ = .nxt [.val (.loc 0), e1, e2, e3, e4, e5, e6, .val (g.d false), a8] μ' ∧ g.fine = true ∧ g.dp ≤ f.dp ∧ Gn.Bx (N + (l :: ls).length) μ' := fun μ1 b hb1 T hin => by
      cases b with
      | false =>
        obtain ⟨g, a8, μ', L, q1, q2, q3⟩ := put_loop k hk e1 e2 e3 e4 e5 e6 ls f (.val (pl l)) (N + 1) μ1 hf hd (by omega) hb1
        refine ⟨g, a8, μ', ?_, q1, q2, q3.up (by simp only [List.length_cons]; omega)⟩
        exact (Gn.loop_nxt (t := .nm 8) (b := putB (run k 18) (run k 12) (run k 20)) (env1 := [.val (.loc 0), e1, e2, e3, e4, e5, e6, .val (f.d false), .val (pl l)]) rfl (Gn.fIf_f T)).trans L
      | true =>
        obtain ⟨at', ha⟩ := spots_pt f l (hin rfl)
        have P := put_ok l k f at' (.tup []) μ1 ha (by have := pt_dp l f at' ha; omega) (fine_few f hf)
        have pd := put_d l f at' .op ha
        have pf := putF_ok l f at' .op ha hf rfl
        have pl' := pt_dp l f at' ha
        have pd : putD f l (.tup []) = (putF f l .op).d false := pd
        rw [pd] at P
        have dd : (putF f l .op).dp ≤ f.dp := by have := pf.2; simp only [Fm.dp] at this; omega
        have E : fSet 7 (fMv (fFn 3 (run k 20) (fCons (fVar 7) (fCons (fVar 8) (fCons (fTup fNil) fNil))))) [.val (.loc 0), e1, e2, e3, e4, e5, e6, .val (f.d false), .val (pl l)] μ1 = .nxt [.val (.loc 0), e1, e2, e3, e4, e5, e6, .val ((putF f l .op).d false), .val (pl l)] μ1 := by
          simp [fSet, fMv, fFn, fCons, fVar, fTup, fNil, Res.bind, Res.to, P]
        obtain ⟨g, a8, μ', L, q1, q2, q3⟩ := put_loop k hk e1 e2 e3 e4 e5 e6 ls (putF f l .op) (.val (pl l)) (N + 1) μ1 pf.1 (by omega) (by omega) hb1
        refine ⟨g, a8, μ', ?_, q1, by omega, q3.up (by simp only [List.length_cons]; omega)⟩
        exact (Gn.loop_nxt (t := .nm 8) (b := putB (run k 18) (run k 12) (run k 20)) (env1 := [.val (.loc 0), e1, e2, e3, e4, e5, e6, .val (f.d false), .val (pl l)]) rfl ((Gn.fIf_t T).trans E)).trans L
    have A := Gn.fAnd_eq (fb := fOr (fTB (fB gNe (fVar 8) (fTup fNil))) (fTB (fB gEq (fFn 2 (run k 12) (fCons (fVar 0) (fCons (fC (.int 4)) fNil))) (fC (.int 0))))) T1
    by_cases h1 : l ∈ spots f
    · rw [decide_eq_true h1] at A
      simp only [if_true] at A
      have T2 : fTB (fB gNe (fVar 8) (fTup fNil)) [.val (.loc 0), e1, e2, e3, e4, e5, e6, .val (f.d false), .val (pl l)] μ = .ok (!decide (l = [])) μ := by
        have q := gNe_plain (a := pl l) (b := .tup []) (env := [.val (.loc 0), e1, e2, e3, e4, e5, e6, .val (f.d false), .val (pl l)]) (μ := μ) (pl_pl l) rfl (by rw [pl_d1]; omega) (pl_ne l) (fun n z => by cases z)
        have e := pl_eq l []
        have e : D.eq (pl l) (.tup []) = decide (l = []) := e
        rw [e] at q
        have v : fVar 8 [.val (.loc 0), e1, e2, e3, e4, e5, e6, .val (f.d false), .val (pl l)] μ = .ok (.val (pl l)) μ := rfl
        have w : fTup fNil [.val (.loc 0), e1, e2, e3, e4, e5, e6, .val (f.d false), .val (pl l)] μ = .ok (.val (.tup [])) μ := by simp [fTup, fNil, Res.bind]
        have g := fB_eq gNe v w
        rw [q] at g
        exact Gn.fTB_eq g
      have O := Gn.fOr_eq (fb := fTB (fB gEq (fFn 2 (run k 12) (fCons (fVar 0) (fCons (fC (.int 4)) fNil))) (fC (.int 0)))) T2
      by_cases h2 : l = []
      · obtain ⟨j, rfl⟩ : ∃ j, k = j + 1 := ⟨k - 1, by omega⟩
        obtain ⟨r, μ1, et, hr, hb1⟩ := take1 j 4 N μ (by omega) (by omega) (by omega) hb
        rw [decide_eq_true h2] at O
        have T3 : fTB (fB gEq (fFn 2 (run (j+1) 12) (fCons (fVar 0) (fCons (fC (.int 4)) fNil))) (fC (.int 0))) [.val (.loc 0), e1, e2, e3, e4, e5, e6, .val (f.d false), .val (pl l)] μ = .ok (decide ((r : Int) = 0)) μ1 := by
          simp [fTB, fB, fFn, fCons, fVar, fC, fNil, Res.bind, et, Gn.gEq_int]
        simp only [Bool.not_true, Bool.false_eq_true, if_false] at O
        rw [T3] at O
        rw [O] at A
        exact go μ1 _ hb1 A fun _ => h1
      · rw [decide_eq_false h2] at O
        simp only [Bool.not_false, if_true] at O
        rw [O] at A
        exact go μ true (hb.up (by omega)) A fun _ => h1
    · rw [decide_eq_false h1] at A
      simp only [Bool.false_eq_true, if_false] at A
      exact go μ false (hb.up (by omega)) A fun h => by cases h
theorem pick1 (k : Nat) (ds : List D) (c : Nat) (hc : c ≤ 1000000) (hl : ds.length ≤ 1000000) (N : Nat) (hN : N + c ≤ 1000000000000) (μ : Mu) (h : Gn.Bx N μ) : ∃ (es : List D) (μ' : Mu), (∀ e ∈ es, e ∈ ds) ∧ es.length ≤ c ∧ run (k+2) 15 [.loc 0, .lst ds, .int (c : Int)] μ = .ok (.own es) μ' ∧ Gn.Bx (N + c) μ' := Gn.pick_ok (take1 k) ds c hc hl N hN μ h
abbrev lapB (k : Nat) : FS := (fSeq (fSet 7 (fMv (fVar 4)))
    (fSeq (fFor (fAny (fFnN 3 (run k 15) (fCons (fVar 0) (fCons (fFn 1 (run k 18) (fCons (fVar 4) fNil)) (fCons (fFn 2 (run k 12) (fCons (fVar 0) (fCons (fC (.int 4)) fNil))) fNil))))) (.nm 8) (putB (run k 18) (run k 12) (run k 20)))
    (fApp 5 (fVar 7))))
theorem lap_loop (k : Nat) (hk : 14 ≤ k) (ab : Fm) (hf : ab.fine = true) (hd : ab.dp ≤ 9) (e1 e2 e3 : EV) : ∀ (m : Nat) (i : Int) (ps : List Fm) (e6 e7 e8 : EV) (N : Nat) (μ : Mu), Fm.fines ps = true → (∀ p ∈ ps, p.dp ≤ ab.dp) → ps.length + m ≤ 1000 → N + m * 10 ≤ 1000000000000 → Gn.Bx N μ →
    ∃ (qs : List Fm) (a6 a7 a8 : EV) (μ' : Mu), loop (.nm 6) (lapB k) (rangeD i m) [.val (.loc 0), e1, e2, e3, .val (ab.d false), .own (Fm.ds false ps), e6, e7, e8] μ = .nxt [.val (.loc 0), e1, e2, e3, .val (ab.d false), .own (Fm.ds false qs), a6, a7, a8] μ' ∧ qs.length = ps.length + m ∧ Fm.fines qs = true ∧ (∀ p ∈ qs, p.dp ≤ ab.dp) ∧ Gn.Bx (N + m * 10) μ'
  | 0, i, ps, e6, e7, e8, N, μ, h1, h2, _, _, hb => ⟨ps, e6, e7, e8, μ, rfl, rfl, h1, h2, by simpa using hb⟩
  | m + 1, i, ps, e6, e7, e8, N, μ, h1, h2, h3, hN, hb => by
    obtain ⟨k, rfl⟩ : ∃ j, k = j + 2 := ⟨k - 2, by omega⟩
    obtain ⟨r, μ1, et, hr, hb1⟩ := take1 (k+1) 4 N μ (by omega) (by omega) (by omega) hb
    have sp := spots_ok (k+2) ab μ (by omega) (by omega) (fine_sz9 hf hd)
    have sz := fine_sz9 hf hd
    have sl := spots_len ab
    obtain ⟨es, μ2, m1, l1, ep, hb2⟩ := pick1 k ((spots ab).map pl) r (by omega) (by rw [List.length_map]; omega) (N + 1) (by omega) μ1 hb1
    obtain ⟨ls, rfl, hls⟩ := lift_map m1
    rw [List.length_map] at l1
    obtain ⟨g, a8, μ3, L1, g1, g2, hb3⟩ := put_loop (k+2) hk e1 e2 e3 (.val (ab.d false)) (.own (Fm.ds false ps)) (.val (.int i)) ls ab e8 (N + 1 + r) μ2 hf hd (by omega) hb2
    obtain ⟨qs, a6, a7, a8', μ', L, q1, q2, q3, q4⟩ := lap_loop (k+2) hk ab hf hd e1 e2 e3 m (i + 1) (ps ++ [g]) (.val (.int i)) (.val (g.d false)) a8 (N + 10) μ3
      (fines_of fun q hq => by
        rcases List.mem_append.mp hq with hq | hq
        · exact fines_mem h1 hq
        · rw [List.mem_singleton.mp hq]; exact g1)
      (fun q hq => by
        rcases List.mem_append.mp hq with hq | hq
        · exact h2 q hq
        · rw [List.mem_singleton.mp hq]; exact g2) (by simp only [List.length_append, List.length_singleton]; omega) (by omega) (hb3.up (by omega))
    refine ⟨qs, a6, a7, a8', μ', ?_, by rw [q1, List.length_append, List.length_singleton]; omega, q2, q3, by rw [show N + (m + 1) * 10 = N + 10 + m * 10 by omega]; exact q4⟩
    have E1 : fSet 7 (fMv (fVar 4)) [.val (.loc 0), e1, e2, e3, .val (ab.d false), .own (Fm.ds false ps), .val (.int i), e7, e8] μ = .nxt [.val (.loc 0), e1, e2, e3, .val (ab.d false), .own (Fm.ds false ps), .val (.int i), .val (ab.d false), e8] μ := rfl
    have E2 : fAny (fFnN 3 (run (k+2) 15) (fCons (fVar 0) (fCons (fFn 1 (run (k+2) 18) (fCons (fVar 4) fNil)) (fCons (fFn 2 (run (k+2) 12) (fCons (fVar 0) (fCons (fC (.int 4)) fNil))) fNil)))) [.val (.loc 0), e1, e2, e3, .val (ab.d false), .own (Fm.ds false ps), .val (.int i), .val (ab.d false), e8] μ = .ok (ls.map pl) μ2 := by
      simp [fAny, fFnN, fFn, fCons, fVar, fC, fNil, Res.bind, sp, et, ep]
    have E3 := Gn.fFor_nxt (t := .nm 8) E2 L1
    have z : ps.length < LIM := by unfold LIM; omega
    have E4 : fApp 5 (fVar 7) [.val (.loc 0), e1, e2, e3, .val (ab.d false), .own (Fm.ds false ps), .val (.int i), .val (g.d false), a8] μ3 = .nxt [.val (.loc 0), e1, e2, e3, .val (ab.d false), .own (Fm.ds false (ps ++ [g])), .val (.int i), .val (g.d false), a8] μ3 := by
      rw [ds_app]
      simp [fApp, getL, putL, fVar, Res.to, ds_len, z, Fm.ds]
    simp only [rangeD]
    exact (Gn.loop_nxt (t := .nm 6) (b := lapB (k+2)) (env1 := [.val (.loc 0), e1, e2, e3, .val (ab.d false), .own (Fm.ds false ps), .val (.int i), e7, e8]) rfl ((fSeq_nxt E1).trans ((fSeq_nxt E3).trans E4))).trans L
end Kx

set_option linter.all false
set_option maxRecDepth 100000
set_option maxHeartbeats 4000000
namespace Kx
open PySem Q
/-! ### a form near a page -/
theorem of1t (k : Nat) (ds : List D) (h0 : 0 < ds.length) (hl : ds.length ≤ 1000000) (N : Nat) (hN : N ≤ 1000000000000) (μ : Mu) (h : Gn.Bx N μ) : ∃ (d : D) (μ' : Mu), d ∈ ds ∧ run (k+2) 14 [.loc 0, .tup ds] μ = .ok (.val d) μ' ∧ Gn.Bx (N+1) μ' := by
  obtain ⟨r, μ1, e, hr, hb⟩ := take1 k (ds.length : Int) N μ (by omega) (by omega) hN h
  have hr' : r < ds.length := by omega
  have z : ds.length ≤ 16777216 := by omega
  refine ⟨ds[r], μ1, List.getElem_mem hr', ?_, hb⟩
  have e0 : run (k+2) 14 = runOf 2 (b14 (run (k+1))) := rfl
  rw [e0]
  refine Gn.runOf_ret [.val (.loc 0), .val (.tup ds)] rfl ?_
  unfold b14
  refine Gn.fRetE ?_
  have g : ds[r]? = some ds[r] := List.getElem?_eq_getElem hr'
  simp [fB, fVar, fFn, fCons, fNil, fCall, fConsr, fNilr, gLen, gIx, sq, SqD.items, Res.bind, LIM, z, e, Gn.atI_nat, g]
abbrev innE (rn : RunF) : FE := (fIf (fTB (fB gGt (fVar 2) (fC (.int 0)))) (fFn 3 rn (fCons (fVar 0) (fCons (fVar 1) (fCons (fB gSub (fVar 2) (fC (.int 1))) fNil)))) (fTup fNil))
abbrev nearB (k : Nat) (rn : RunF) : FS := (fIfS (fTB (fB (gIn false) (fVar 5) (fFn 1 (run k 18) (fCons (fVar 3) fNil)))) (fSeq (fSet 6 (fMv (innE rn)))
    (fSet 3 (fMv (fFn 3 (run k 20) (fCons (fVar 3) (fCons (fVar 5) (fCons (fFn 2 (run k 14) (fCons (fVar 0) (fCons (fLst (fCons (fTup fNil) (fCons (fTup fNil) (fCons (fVar 6) (fCons (fVar 6) (fCons (fTup (fCons (fC (.str "a")) fNil)) (fCons (fTup (fCons (fC (.str "b")) fNil)) fNil))))))) fNil))) fNil))))))) fNext)
theorem near_loop (k : Nat) (hk : 16 ≤ k) (rn : RunF) (S : D) (deep : Int) (z d T : Nat) (z1 : 1 ≤ z) (d1 : 1 ≤ d) (d6 : d ≤ 6)
    (hi : ∀ (N : Nat) (μ : Mu) (e3 e4 e5 e6 : EV), N + T ≤ 1000000000000 → Gn.Bx N μ → ∃ (x : Fm) (μ' : Mu), innE rn [.val (.loc 0), .val S, .val (.int deep), e3, e4, e5, e6] μ = .ok (.val (x.d false)) μ' ∧ x.fine = true ∧ x.sz ≤ z ∧ x.dp ≤ d ∧ Gn.Bx (N + T) μ') (e4 : EV) :
    ∀ (ls : List (List Nat)) (f : Fm) (e5 e6 : EV) (N : Nat) (μ : Mu), (∀ l ∈ ls, l.length ≤ 3) → f.fine = true → f.dp ≤ d + 3 → N + ls.length * (T + 1) ≤ 1000000000000 → Gn.Bx N μ →
    ∃ (g : Fm) (a5 a6 : EV) (μ' : Mu), loop (.nm 5) (nearB (k+2) rn) (ls.map pl) [.val (.loc 0), .val S, .val (.int deep), .val (f.d false), e4, e5, e6] μ = .nxt [.val (.loc 0), .val S, .val (.int deep), .val (g.d false), e4, a5, a6] μ' ∧ g.fine = true ∧ g.dp ≤ d + 3 ∧ g.sz ≤ f.sz + ls.length * z ∧ Gn.Bx (N + ls.length * (T + 1)) μ'
  | [], f, e5, e6, N, μ, _, hf, hd, _, hb => ⟨f, e5, e6, μ, rfl, hf, hd, by simp, by simpa using hb⟩
  | l :: ls, f, e5, e6, N, μ, hL, hf, hd, hN, hb => by
    have mul : (l :: ls).length * (T + 1) = ls.length * (T + 1) + (T + 1) := by rw [List.length_cons, Nat.add_mul, Nat.one_mul]
    have mulz : (l :: ls).length * z = ls.length * z + z := by rw [List.length_cons, Nat.add_mul, Nat.one_mul]
    rw [mul] at hN
    rw [mul, mulz]
    have sp := spots_ok (k+2) f μ (by omega) (by omega) (fine_sz9 hf (by omega))
    have ll := hL l List.mem_cons_self
    have T1 : fTB (fB (gIn false) (fVar 5) (fFn 1 (run (k+2) 18) (fCons (fVar 3) fNil))) [.val (.loc 0), .val S, .val (.int deep), .val (f.d false), e4, .val (pl l), e6] μ = .ok (decide (l ∈ spots f)) μ := by
      simp [fTB, fB, fVar, fFn, fCons, fNil, Res.bind, sp, in_spots]
    by_cases hin : l ∈ spots f
    · rw [decide_eq_true hin] at T1
      obtain ⟨at', ha⟩ := spots_pt f l hin
      obtain ⟨x, μ1, EI, x1, x2, x3, hb1⟩ := hi N μ (.val (f.d false)) e4 (.val (pl l)) e6 (by omega) hb
      let six : List D := [.tup [], .tup [], x.d false, x.d false, .tup [.str "a"], .tup [.str "b"]]
      obtain ⟨c, μ2, hc, EO, hb2⟩ := of1 k six (by simp [six]) (by simp [six]) (N + T) (by omega) μ1 hb1
      obtain ⟨y, rfl, y1, y2, y3⟩ : ∃ y : Fm, c = y.d false ∧ y.fine = true ∧ y.sz ≤ z ∧ y.dp ≤ d := by
        simp only [six, List.mem_cons, List.not_mem_nil, or_false] at hc
        have lf : ∀ y : Fm, leafN y → y.fine = true ∧ y.sz ≤ z ∧ y.dp ≤ d := fun y h => by
          obtain ⟨a, b, c⟩ := leaf_facts h
          exact ⟨a, by omega, by omega⟩
        rcases hc with rfl | rfl | rfl | rfl | rfl | rfl
        · exact ⟨.op, rfl, lf _ (.inl rfl)⟩
        · exact ⟨.op, rfl, lf _ (.inl rfl)⟩
        · exact ⟨x, rfl, x1, x2, x3⟩
        · exact ⟨x, rfl, x1, x2, x3⟩
        · exact ⟨.nd "a" [], rfl, lf _ (.inr (.inl rfl))⟩
        · exact ⟨.nd "b" [], rfl, lf _ (.inr (.inr rfl))⟩
      have P := put_ok l (k+2) f at' (y.d false) μ2 ha (by omega) (fine_few f hf)
      rw [put_d l f at' y ha] at P
      have pf := putF_ok l f at' y ha hf y1
      have ps := putF_sz l f at' y ha
      obtain ⟨g, a5, a6, μ', L, q1, q2, q3, q4⟩ := near_loop k hk rn S deep z d T z1 d1 d6 hi e4 ls (putF f l y) (.val (pl l)) (.val (x.d false)) (N + T + 1) μ2 (fun m hm => hL m (List.mem_cons_of_mem _ hm)) pf.1 (by omega) (by omega) hb2
      refine ⟨g, a5, a6, μ', ?_, q1, q2, by omega, q4.up (by omega)⟩
      have S1 : fSet 6 (fMv (innE rn)) [.val (.loc 0), .val S, .val (.int deep), .val (f.d false), e4, .val (pl l), e6] μ = .nxt [.val (.loc 0), .val S, .val (.int deep), .val (f.d false), e4, .val (pl l), .val (x.d false)] μ1 := Gn.fSetE EI
      have EO : run (k+2) 14 [.loc 0, .lst [.tup [], .tup [], x.d false, x.d false, .tup [.str "a"], .tup [.str "b"]]] μ1 = .ok (.val (y.d false)) μ2 := EO
      have S2 : fSet 3 (fMv (fFn 3 (run (k+2) 20) (fCons (fVar 3) (fCons (fVar 5) (fCons (fFn 2 (run (k+2) 14) (fCons (fVar 0) (fCons (fLst (fCons (fTup fNil) (fCons (fTup fNil) (fCons (fVar 6) (fCons (fVar 6) (fCons (fTup (fCons (fC (.str "a")) fNil)) (fCons (fTup (fCons (fC (.str "b")) fNil)) fNil))))))) fNil))) fNil))))) [.val (.loc 0), .val S, .val (.int deep), .val (f.d false), e4, .val (pl l), .val (x.d false)] μ1 = .nxt [.val (.loc 0), .val S, .val (.int deep), .val ((putF f l y).d false), e4, .val (pl l), .val (x.d false)] μ2 := by
        simp [fSet, fMv, fFn, fCons, fVar, fLst, fTup, fC, fNil, Res.bind, Res.to, LIM, EO, P]
      exact (Gn.loop_nxt (t := .nm 5) (b := nearB (k+2) rn) (env1 := [.val (.loc 0), .val S, .val (.int deep), .val (f.d false), e4, .val (pl l), e6]) rfl ((Gn.fIf_t T1).trans ((fSeq_nxt S1).trans S2))).trans L
    · rw [decide_eq_false hin] at T1
      obtain ⟨g, a5, a6, μ', L, q1, q2, q3, q4⟩ := near_loop k hk rn S deep z d T z1 d1 d6 hi e4 ls f (.val (pl l)) e6 N μ (fun m hm => hL m (List.mem_cons_of_mem _ hm)) hf hd (by omega) hb
      refine ⟨g, a5, a6, μ', ?_, q1, q2, by omega, q4.up (by omega)⟩
      exact (Gn.loop_nxt (t := .nm 5) (b := nearB (k+2) rn) (env1 := [.val (.loc 0), .val S, .val (.int deep), .val (f.d false), e4, .val (pl l), e6]) rfl (Gn.fIf_f T1)).trans L
theorem near_step (k : Nat) (hk : 16 ≤ k) (ss : List Fm) (hs : ∀ f ∈ ss, sideP f) (ne : ss ≠ []) (hl : ss.length ≤ 100) (deep : Int) (z d T : Nat) (z1 : 1 ≤ z) (d1 : 1 ≤ d) (d6 : d ≤ 6)
    (hi : ∀ (N : Nat) (μ : Mu) (e3 e4 e5 e6 : EV), N + T ≤ 1000000000000 → Gn.Bx N μ → ∃ (x : Fm) (μ' : Mu), innE (run (k+2) 53) [.val (.loc 0), .val (.tup (Fm.ds false ss)), .val (.int deep), e3, e4, e5, e6] μ = .ok (.val (x.d false)) μ' ∧ x.fine = true ∧ x.sz ≤ z ∧ x.dp ≤ d ∧ Gn.Bx (N + T) μ')
    (N : Nat) (μ : Mu) (hN : N + (2 * T + 5) ≤ 1000000000000) (hb : Gn.Bx N μ) :
    ∃ (g : Fm) (μ' : Mu), run (k+3) 53 [.loc 0, .tup (Fm.ds false ss), .int deep] μ = .ok (.val (g.d false)) μ' ∧ g.fine = true ∧ g.sz ≤ 7 + 2 * z ∧ g.dp ≤ d + 3 ∧ Gn.Bx (N + (2 * T + 5)) μ' := by
  have e : run (k+3) 53 = runOf 7 (b53 (run (k+2))) := rfl
  rw [e]
  have sl : 0 < ss.length := by cases ss with | nil => exact absurd rfl ne | cons a b => simp
  obtain ⟨c, μ1, hc, EO, hb1⟩ := of1t k (Fm.ds false ss) (by rw [ds_len]; exact sl) (by rw [ds_len]; omega) N (by omega) μ hb
  rw [← ds_map] at hc
  obtain ⟨f, hf, rfl⟩ := List.mem_map.mp hc
  obtain ⟨f1, f2, f3, f4⟩ := hs f hf
  have sp := spots_ok (k+2) f μ1 (by omega) (by omega) (by omega)
  have spl := spots_len f
  obtain ⟨es, μ2, m1, l1, EP, hb2⟩ := pk1 k (((spots f).map pl).drop 1) 2 (by omega) (by simp only [List.length_drop, List.length_map]; omega) (N + 1) (by omega) μ1 hb1
  obtain ⟨ls, rfl, hls⟩ := lift_m (g := pl) (T := spots f) (es := es) fun x hx => List.mem_of_mem_drop (m1 x hx)
  rw [List.length_map] at l1
  have lz : ls.length * z ≤ 2 * z := Nat.mul_le_mul_right _ l1
  have lT : ls.length * (T + 1) ≤ 2 * (T + 1) := Nat.mul_le_mul_right _ l1
  obtain ⟨g, a5, a6, μ3, L, q1, q2, q3, q4⟩ := near_loop k hk (run (k+2) 53) (.tup (Fm.ds false ss)) deep z d T z1 d1 d6 hi (.val (.lst ((spots f).map pl))) ls f .un .un (N + 1 + 2) μ2 (fun l hl => by
      obtain ⟨at', ha⟩ := spots_pt f l (hls l hl)
      have := pt_dp l f at' ha
      omega) f1 (by omega) (by omega) hb2
  refine ⟨g, μ3, ?_, q1, by omega, q2, q4.up (by omega)⟩
  let x1 : EV := .val (.tup (Fm.ds false ss))
  refine Gn.runOf_ret [.val (.loc 0), x1, .val (.int deep), .un, .un, .un, .un] rfl ?_
  unfold b53
  have F1 : fSet 3 (fMv (fFn 2 (run (k+2) 14) (fCons (fVar 0) (fCons (fVar 1) fNil)))) [.val (.loc 0), x1, .val (.int deep), .un, .un, .un, .un] μ = .nxt [.val (.loc 0), x1, .val (.int deep), .val (f.d false), .un, .un, .un] μ1 := by
    simp [x1, fSet, fMv, fFn, fCons, fVar, fNil, Res.bind, Res.to, EO]
  have F2 : fSet 4 (fMv (fFn 1 (run (k+2) 18) (fCons (fVar 3) fNil))) [.val (.loc 0), x1, .val (.int deep), .val (f.d false), .un, .un, .un] μ1 = .nxt [.val (.loc 0), x1, .val (.int deep), .val (f.d false), .val (.lst ((spots f).map pl)), .un, .un] μ1 := by
    simp [x1, fSet, fMv, fFn, fCons, fVar, fNil, Res.bind, Res.to, sp]
  have I : fAny (fFnN 3 (run (k+2) 15) (fCons (fVar 0) (fCons (fSl gSlN (fVar 4) (fSomeO (fC (.int 1))) fNoO) (fCons (fC (.int 2)) fNil)))) [.val (.loc 0), x1, .val (.int deep), .val (f.d false), .val (.lst ((spots f).map pl)), .un, .un] μ1 = .ok (ls.map pl) μ2 := by
    have c := Gn.cut_from ((spots f).map pl) 1
    have c : cut ((spots f).map pl) (some (1 : Int)) none = ((spots f).map pl).drop 1 := c
    have EP : run (k+2) 15 [.loc 0, .lst (((spots f).map pl).drop 1), .int 2] μ1 = .ok (.own (ls.map pl)) μ2 := EP
    have v : fSl gSlN (fVar 4) (fSomeO (fC (.int 1))) fNoO [.val (.loc 0), x1, .val (.int deep), .val (f.d false), .val (.lst ((spots f).map pl)), .un, .un] μ1 = .ok (.val (.lst (((spots f).map pl).drop 1))) μ1 := by
      simp only [fSl, gSlN, fVar, fSomeO, fNoO, fC, Res.bind, sq, List.getElem?_cons_succ, List.getElem?_cons_zero, c]
    simp only [fAny, fFnN, fCons, fNil, v, Res.bind, fVar, fC, List.getElem?_cons_zero, List.length_cons, List.length_nil, if_true, EP]
  have F3 := Gn.fFor_nxt (t := .nm 5) (fb := nearB (k+2) (run (k+2) 53)) I L
  rw [fSeq_nxt F1, fSeq_nxt F2]
  refine (fSeq_nxt F3).trans ?_
  rfl
theorem near0_ok (k : Nat) (hk : 16 ≤ k) (ss : List Fm) (hs : ∀ f ∈ ss, sideP f) (ne : ss ≠ []) (hl : ss.length ≤ 100) (N : Nat) (μ : Mu) (hN : N + 5 ≤ 1000000000000) (hb : Gn.Bx N μ) :
    ∃ (g : Fm) (μ' : Mu), run (k+3) 53 [.loc 0, .tup (Fm.ds false ss), .int 0] μ = .ok (.val (g.d false)) μ' ∧ g.fine = true ∧ g.sz ≤ 9 ∧ g.dp ≤ 4 ∧ Gn.Bx (N + 5) μ' :=
  near_step k hk ss hs ne hl 0 1 1 0 (by omega) (by omega) (by omega) (fun N μ e3 e4 e5 e6 _ h => ⟨.op, μ, by simp [innE, fIf, fTB, fB, fVar, fC, gGt, gIB, fTup, fNil, Res.bind, LIM, Fm.d, sqd], rfl, by decide, by decide, h⟩) N μ (by omega) hb
theorem near1_ok (k : Nat) (hk : 16 ≤ k) (ss : List Fm) (hs : ∀ f ∈ ss, sideP f) (ne : ss ≠ []) (hl : ss.length ≤ 100) (N : Nat) (μ : Mu) (hN : N + 15 ≤ 1000000000000) (hb : Gn.Bx N μ) :
    ∃ (g : Fm) (μ' : Mu), run (k+4) 53 [.loc 0, .tup (Fm.ds false ss), .int 1] μ = .ok (.val (g.d false)) μ' ∧ g.fine = true ∧ g.sz ≤ 25 ∧ g.dp ≤ 7 ∧ Gn.Bx (N + 15) μ' :=
  near_step (k+1) (by omega) ss hs ne hl 1 9 4 5 (by omega) (by omega) (by omega) (fun N μ e3 e4 e5 e6 h1 h2 => by
    obtain ⟨g, μ', E, a, b, c, d⟩ := near0_ok k hk ss hs ne hl N μ (by omega) h2
    exact ⟨g, μ', by simp [innE, fIf, fTB, fB, fVar, fC, gGt, gIB, gSub, gI0, fFn, fCons, fNil, Res.bind, E], a, b, c, d⟩) N μ (by omega) hb
end Kx

set_option linter.all false
set_option maxRecDepth 100000
set_option maxHeartbeats 4000000
namespace Kx
open PySem Q
/-! ### the first side that agrees -/
def fstN (f : Fm) : Nat → List Fm → Option Nat
  | _, [] => none
  | n, s :: ss => if agr s f then some n else fstN f (n + 1) ss
def fst (ss : List Fm) (f : Fm) : Option Nat := match f with
  | .op => none
  | _ => fstN f 0 ss
def oN : Option Nat → D
  | some n => .int (n : Int)
  | none => .non
theorem vd (b : Bool) (f : Fm) : f.d b = sqd b (match f with | .op => [] | .nd s ps => .str s :: Fm.ds b ps) := by cases f <;> rfl
theorem fst_loop (k : Nat) (x : EV) (f : Fm) (μ : Mu) : ∀ (ss : List Fm) (n : Nat) (e2 e3 : EV), Fm.dps ss + 2 ≤ k → Fm.fews ss = true →
    match fstN f n ss with
    | some m => loop (.tp [(.nm 2), (.nm 3)]) (fIfS (fTT (fFn 2 (run k 5) (fCons (fVar 3) (fCons (fVar 1) fNil)))) (fRet (fMv (fVar 2))) fNext) (enumD (n : Int) (Fm.ds false ss)) [x, .val (f.d false), e2, e3] μ = .ret (.val (.int (m : Int))) μ
    | none => ∃ a2 a3, loop (.tp [(.nm 2), (.nm 3)]) (fIfS (fTT (fFn 2 (run k 5) (fCons (fVar 3) (fCons (fVar 1) fNil)))) (fRet (fMv (fVar 2))) fNext) (enumD (n : Int) (Fm.ds false ss)) [x, .val (f.d false), e2, e3] μ = .nxt [x, .val (f.d false), a2, a3] μ
  | [], n, e2, e3, _, _ => ⟨e2, e3, rfl⟩
  | s :: ss, n, e2, e3, hk, hf => by
    simp only [Fm.dps] at hk
    have hf : s.few = true ∧ Fm.fews ss = true := by simpa [Fm.fews] using hf
    have A := agr_ok k false false s f μ (by omega) hf.1
    have T : fTT (fFn 2 (run k 5) (fCons (fVar 3) (fCons (fVar 1) fNil))) [x, .val (f.d false), .val (.int (n : Int)), .val (s.d false)] μ = .ok (agr s f) μ := by
      simp [fTT, fFn, fCons, fVar, fNil, Res.bind, A, tru]
    simp only [fstN]
    cases h : agr s f with
    | true =>
      rw [h] at T
      simp only [if_true]
      simp only [Fm.ds, enumD]
      exact Gn.loop_ret (env1 := [x, .val (f.d false), .val (.int (n : Int)), .val (s.d false)]) rfl ((Gn.fIf_t T).trans rfl)
    | false =>
      rw [h] at T
      simp only [Bool.false_eq_true, if_false]
      have ih := fst_loop k x f μ ss (n + 1) (.val (.int (n : Int))) (.val (s.d false)) (by omega) hf.2
      have en : ((n + 1 : Nat) : Int) = (n : Int) + 1 := by omega
      rw [en] at ih
      have st := Gn.loop_nxt (t := .tp [(.nm 2), (.nm 3)]) (b := fIfS (fTT (fFn 2 (run k 5) (fCons (fVar 3) (fCons (fVar 1) fNil)))) (fRet (fMv (fVar 2))) fNext) (d := .tup [.int (n : Int), s.d false]) (ds := enumD ((n : Int) + 1) (Fm.ds false ss)) (env := [x, .val (f.d false), e2, e3]) (env1 := [x, .val (f.d false), .val (.int (n : Int)), .val (s.d false)]) rfl (Gn.fIf_n T)
      cases hn : fstN f (n + 1) ss with
      | some m =>
        rw [hn] at ih
        simp only [Fm.ds, enumD]
        exact st.trans ih
      | none =>
        rw [hn] at ih
        obtain ⟨a2, a3, ih⟩ := ih
        refine ⟨a2, a3, ?_⟩
        simp only [Fm.ds, enumD]
        exact st.trans ih
theorem first_ok (k : Nat) (ss : List Fm) (f : Fm) (μ : Mu) (hk : Fm.dps ss + 2 ≤ k) (hs : Fm.fews ss = true) (of : f.ok = true) : run (k+1) 37 [.tup (Fm.ds false ss), f.d false] μ = .ok (.val (oN (fst ss f))) μ := by
  have e : run (k+1) 37 = runOf 4 (b37 (run k)) := rfl
  rw [e]
  have N := isOp f of
  have T := Gn.fTB_eq ((fB_eq gEq (fa := fVar 1) (fb := fC g_OPEN) (env := [.val (.tup (Fm.ds false ss)), .val (f.d false), .un, .un]) (μ := μ) rfl rfl).trans (N _ _))
  have src : fEn (fVar 0) [.val (.tup (Fm.ds false ss)), .val (f.d false), .un, .un] μ = .ok (enumD ((0 : Nat) : Int) (Fm.ds false ss)) μ := rfl
  have L := fst_loop k (.val (.tup (Fm.ds false ss))) f μ ss 0 .un .un hk hs
  cases f with
  | op =>
    refine Gn.runOf_ret _ rfl ?_
    unfold b37
    exact Gn.fSeq_ret ((Gn.fIf_t T).trans rfl)
  | nd s ps =>
    refine Gn.runOf_ret _ rfl ?_
    unfold b37
    refine (fSeq_nxt (Gn.fIf_n T)).trans ?_
    simp only [fst]
    cases hn : fstN (.nd s ps) 0 ss with
    | some m =>
      rw [hn] at L
      exact Gn.fSeq_ret (Gn.fFor_nxt src L)
    | none =>
      rw [hn] at L
      obtain ⟨a2, a3, L⟩ := L
      exact (fSeq_nxt (Gn.fFor_nxt src L)).trans rfl
/-! the same by the law's words -/
def ag (f s : Fm) : Bool := match f with
  | .op => false
  | _ => agr s f
def allN (f : Fm) : Nat → List Fm → List Nat
  | _, [] => []
  | n, s :: ss => if ag f s then n :: allN f (n + 1) ss else allN f (n + 1) ss
theorem allN_head (f : Fm) : ∀ (ss : List Fm) (n : Nat), (allN f n ss).head? = match f with | .op => none | _ => fstN f n ss
  | [], n => by cases f <;> rfl
  | s :: ss, n => by
    have ih := allN_head f ss (n + 1)
    cases f with
    | op => simpa [allN, ag] using ih
    | nd t ps =>
      simp only [allN, fstN, ag]
      by_cases h : agr s (.nd t ps) = true
      · simp [h]
      · simp only [h, Bool.false_eq_true, if_false]; simpa using ih
theorem allN_len (f : Fm) : ∀ (ss : List Fm) (n : Nat), (allN f n ss).length ≤ ss.length
  | [], n => by simp [allN]
  | s :: ss, n => by
    have ih := allN_len f ss (n + 1)
    simp only [allN]
    cases ag f s <;> simp <;> omega
theorem allN_loop (k : Nat) (x y : EV) (f : Fm) (μ : Mu) (of : f.ok = true) : ∀ (ss : List Fm) (n : Nat) (acc : List D), Fm.dps ss + 1 ≤ k → Fm.fews ss = true → Fm.oks ss = true →
    lcLoop (.tp [(.nm 3), (.nm 4)]) (fAnd (fTB (fB gNe (fVar 1) (fTup fNil))) (fTT (fFn 2 (run k 45) (fCons (fVar 4) (fCons (fVar 1) fNil))))) (fVar 3) [x, .val (f.d false), y, .un, .un] (enumD (n : Int) (Fm.ds false ss)) μ acc = .ok (acc ++ (allN f n ss).map fun (n : Nat) => .int (n : Int)) μ
  | [], n, acc, _, _, _ => by simp [Fm.ds, enumD, lcLoop, allN]
  | s :: ss, n, acc, hk, hf, ho => by
    simp only [Fm.dps] at hk
    have hf : s.few = true ∧ Fm.fews ss = true := by simpa [Fm.fews] using hf
    have ho : s.ok = true ∧ Fm.oks ss = true := by simpa [Fm.oks] using ho
    have A := lagr_ok k s f μ (by omega) hf.1 ho.1 of
    have T1 := Gn.fTB_eq ((fB_eq gNe (fa := fVar 1) (fb := fTup fNil) (env := [x, .val (f.d false), y, .val (.int (n : Int)), .val (s.d false)]) (μ := μ) (μ1 := μ) (μ2 := μ) (y := .val (.tup [])) rfl (by simp [fTup, fNil, Res.bind])).trans (isNop f of _ _))
    have T2 : fTT (fFn 2 (run k 45) (fCons (fVar 4) (fCons (fVar 1) fNil))) [x, .val (f.d false), y, .val (.int (n : Int)), .val (s.d false)] μ = .ok (agr s f) μ := by
      simp [fTT, fFn, fCons, fVar, fNil, Res.bind, A, tru]
    have T := Gn.fAnd_eq (fb := fTT (fFn 2 (run k 45) (fCons (fVar 4) (fCons (fVar 1) fNil)))) T1
    rw [T2] at T
    have en : ((n + 1 : Nat) : Int) = (n : Int) + 1 := by omega
    have tt : fAnd (fTB (fB gNe (fVar 1) (fTup fNil))) (fTT (fFn 2 (run k 45) (fCons (fVar 4) (fCons (fVar 1) fNil)))) [x, .val (f.d false), y, .val (.int (n : Int)), .val (s.d false)] μ = .ok (ag f s) μ := by
      rw [T]; cases f <;> rfl
    simp only [Fm.ds, enumD, allN]
    cases h : ag f s with
    | true =>
      rw [h] at tt
      have ih := allN_loop k x y f μ of ss (n + 1) (acc ++ [.int (n : Int)]) (by omega) hf.2 ho.2
      rw [en] at ih
      simp [lcLoop, Tg.bind, Tg.binds, tt, Res.nx, Res.bind, fVar]
      rw [ih]; simp
    | false =>
      rw [h] at tt
      have ih := allN_loop k x y f μ of ss (n + 1) acc (by omega) hf.2 ho.2
      rw [en] at ih
      simp [lcLoop, Tg.bind, Tg.binds, tt, Res.nx, Res.bind]
      rw [ih]
theorem lfirst_ok (k : Nat) (ss : List Fm) (f : Fm) (μ : Mu) (hk : Fm.dps ss + 1 ≤ k) (hl : ss.length ≤ 1000) (hs : Fm.fews ss = true) (ho : Fm.oks ss = true) (of : f.ok = true) : run (k+1) 54 [.tup (Fm.ds false ss), f.d false] μ = .ok (.val (oN (fst ss f))) μ := by
  have e : run (k+1) 54 = runOf 5 (b54 (run k)) := rfl
  rw [e]
  have src : fEn (fVar 0) [.val (.tup (Fm.ds false ss)), .val (f.d false), .un, .un, .un] μ = .ok (enumD ((0 : Nat) : Int) (Fm.ds false ss)) μ := rfl
  have L := allN_loop k (.val (.tup (Fm.ds false ss))) .un f μ of ss 0 [] hk hs ho
  have C := fLc_eq (vs := [3, 4]) src (by rw [enumD_len, ds_len, LIM]; omega) L
  have S1 := Gn.fSetE (i := 2) C
  refine Gn.runOf_ret _ rfl ?_
  unfold b54
  refine (fSeq_nxt S1).trans ?_
  have hd := allN_head f ss 0
  have al := allN_len f ss 0
  have ff : fst ss f = (allN f 0 ss).head? := by rw [hd]; cases f <;> rfl
  rw [ff]
  cases h : allN f 0 ss with
  | nil =>
    simp [fRet, fMv, fIf, fTB, fB, fVar, fC, fLst, fNil, gNe, rd, Res.bind, Res.to, D.scal2, D.plain, D.plains, D.dep, D.deps, D.eq, D.eqs, oN]
  | cons a l =>
    have pl := pl_plain (a :: l)
    have dl := pl_dep (a :: l)
    simp only [List.map_cons] at pl dl
    simp only [List.nil_append, List.map_cons, List.head?_cons, oN]
    have G : gNe [.val (.tup (Fm.ds false ss)), .val (f.d false), .val (.lst (.int (a : Int) :: l.map fun (n : Nat) => .int (n : Int))), .un, .un] (.val (.lst (.int (a : Int) :: l.map fun (n : Nat) => .int (n : Int)))) (.val (.lst [])) μ = .ok (.val (.bl true)) μ := by
      rw [gNe_plain (by simpa [D.plain] using pl) rfl (by simp [D.dep, D.deps]) (fun n z => by cases z) (fun n z => by cases z)]
      simp [D.eq, D.eqs]
    have T := Gn.fTB_eq ((fB_eq gNe (fa := fVar 2) (fb := fLst fNil) (env := [.val (.tup (Fm.ds false ss)), .val (f.d false), .val (.lst (.int (a : Int) :: l.map fun (n : Nat) => .int (n : Int))), .un, .un]) (μ := μ) (μ1 := μ) (μ2 := μ) (y := .val (.lst [])) rfl (by simp [fLst, fNil, Res.bind])).trans G)
    refine Gn.fRetE ?_
    simp only [List.set_cons_succ, List.set_cons_zero]
    simp only [fIf, T, Res.bind, if_true]
    simp [fB, fVar, fC, gIx, sq, SqD.items, L2.atI, L2.ixN, Res.bind]
end Kx

set_option linter.all false
set_option maxRecDepth 100000
set_option maxHeartbeats 4000000
namespace Kx
open PySem Q
/-! ### blots by one pass -/
mutual
def bl (ss : List Fm) : Fm → Fm
  | .op => .op
  | .nd s ps => match fst ss (.nd s (bls ss ps)) with
    | none => .nd s (bls ss ps)
    | some _ => .op
def bls (ss : List Fm) : List Fm → List Fm
  | [] => []
  | p :: ps => bl ss p :: bls ss ps
end
abbrev Row := List Nat × Nat
mutual
def rwo (ss : List Fm) (l : List Nat) : Fm → List Row
  | .op => []
  | .nd s ps => rwos ss l 0 ps ++ match fst ss (.nd s (bls ss ps)) with
    | none => []
    | some n => [(l, n)]
def rwos (ss : List Fm) (l : List Nat) : Nat → List Fm → List Row
  | _, [] => []
  | i, p :: ps => rwo ss (l ++ [i]) p ++ rwos ss l (i + 1) ps
end
def rowD (x : Row) : D := .tup [pl x.1, .int (x.2 : Int)]
theorem bls_len (ss : List Fm) : ∀ ps : List Fm, (bls ss ps).length = ps.length
  | [] => rfl
  | p :: ps => congrArg (· + 1) (bls_len ss ps)
mutual
theorem bl_keep (ss : List Fm) : ∀ f : Fm, (f.few = true → (bl ss f).few = true) ∧ (f.ok = true → (bl ss f).ok = true) ∧ (f.fine = true → (bl ss f).fine = true) ∧ (bl ss f).dp ≤ f.dp
  | .op => ⟨fun h => h, fun h => h, fun h => h, Nat.le_refl _⟩
  | .nd s ps => by
    obtain ⟨h1, h2, h3, h4⟩ := bls_keep ss ps
    have l := bls_len ss ps
    simp only [bl]
    split
    · refine ⟨fun h => ?_, fun h => ?_, fun h => ?_, by simp only [Fm.dp]; omega⟩
      · simp only [Fm.few, Bool.and_eq_true, decide_eq_true_eq] at h ⊢
        exact ⟨by omega, h1 h.2⟩
      · simp only [Fm.ok, Bool.and_eq_true] at h ⊢
        exact ⟨h.1, h2 h.2⟩
      · have h := fine_nd h
        simp only [Fm.fine, Bool.and_eq_true, decide_eq_true_eq]
        exact ⟨h.1, by omega, h3 h.2.2⟩
    · exact ⟨fun _ => rfl, fun _ => rfl, fun _ => rfl, by simp [Fm.dp]⟩
theorem bls_keep (ss : List Fm) : ∀ ps : List Fm, (Fm.fews ps = true → Fm.fews (bls ss ps) = true) ∧ (Fm.oks ps = true → Fm.oks (bls ss ps) = true) ∧ (Fm.fines ps = true → Fm.fines (bls ss ps) = true) ∧ Fm.dps (bls ss ps) ≤ Fm.dps ps
  | [] => ⟨fun h => h, fun h => h, fun h => h, Nat.le_refl _⟩
  | p :: ps => by
    obtain ⟨h1, h2, h3, h4⟩ := bl_keep ss p
    obtain ⟨g1, g2, g3, g4⟩ := bls_keep ss ps
    refine ⟨fun h => ?_, fun h => ?_, fun h => ?_, by simp only [bls, Fm.dps]; omega⟩
    · simp only [bls, Fm.fews, Bool.and_eq_true] at h ⊢; exact ⟨h1 h.1, g1 h.2⟩
    · simp only [bls, Fm.oks, Bool.and_eq_true] at h ⊢; exact ⟨h2 h.1, g2 h.2⟩
    · simp only [bls, Fm.fines, Bool.and_eq_true] at h ⊢; exact ⟨h3 h.1, g3 h.2⟩
end
mutual
theorem rwo_len (ss : List Fm) : ∀ (f : Fm) (l : List Nat), (rwo ss l f).length ≤ f.sz
  | .op, l => by simp [rwo]
  | .nd s ps, l => by
    have := rwos_len ss ps l 0
    simp only [rwo, List.length_append, Fm.sz]
    split <;> simp <;> omega
theorem rwos_len (ss : List Fm) : ∀ (ps : List Fm) (l : List Nat) (i : Nat), (rwos ss l i ps).length ≤ Fm.szs ps
  | [], l, i => by simp [rwos]
  | p :: ps, l, i => by
    have h1 := rwo_len ss p (l ++ [i])
    have h2 := rwos_len ss ps l (i + 1)
    simp only [rwos, List.length_append, Fm.szs]; omega
end
abbrev pasB (rc rf : RunF) (gE : FT) (o : FE) : FS := (fSeq (fIfS gE (fRet (fMv o)) fNext)
    (fSeq (fSet 4 (fMv (fLc (fEn (fSl gSl (fVar 1) (fSomeO (fC (.int 1))) fNoO)) (.tp [(.nm 5), (.nm 6)]) fYes (fFn 4 rc (fCons (fVar 0) (fCons (fVar 6) (fCons (fB gAdd (fVar 2) (fTup (fCons (fVar 5) fNil))) (fCons (fVar 3) fNil))))) [5, 6])))
    (fSeq (fSet 7 (fMv (fB gAdd (fSl gSl (fVar 1) fNoO (fSomeO (fC (.int 1)))) (fCall gTuple (fConsr (fVar 4) fNilr)))))
    (fSeq (fSet 8 (fMv (fFn 2 rf (fCons (fVar 0) (fCons (fVar 7) fNil)))))
    (fSeq (fIfS (fTB (fB gIsN (fVar 8) (fC .non))) (fRet (fMv (fVar 7))) fNext)
    (fSeq (fApp 3 (fTup (fCons (fVar 2) (fCons (fVar 8) fNil))))
    (fRet (fMv o))))))))
theorem pas_loop {rc : RunF} (ss : List Fm) (T : D) (l : List Nat) (x1 : EV) (m : Nat) (μ : Mu) (hl : l.length ≤ 1000) : ∀ (ps : List Fm) (i : Nat) (acc : List D) (rs : List D),
    (∀ p ∈ ps, ∀ (j : Nat) (rs : List D), rs.length + p.sz ≤ 1000000 → rc [T, p.d false, pl (l ++ [j]), .loc m] (μ.set m rs) = .ok (.val ((bl ss p).d false)) (μ.set m (rs ++ (rwo ss (l ++ [j]) p).map rowD))) → rs.length + Fm.szs ps ≤ 1000000 →
    lcLoop (.tp [(.nm 5), (.nm 6)]) fYes (fFn 4 rc (fCons (fVar 0) (fCons (fVar 6) (fCons (fB gAdd (fVar 2) (fTup (fCons (fVar 5) fNil))) (fCons (fVar 3) fNil))))) [.val T, x1, .val (pl l), .val (.loc m), .un, .un, .un, .un, .un] (enumD (i : Int) (Fm.ds false ps)) (μ.set m rs) acc = .ok (acc ++ Fm.ds false (bls ss ps)) (μ.set m (rs ++ (rwos ss l i ps).map rowD))
  | [], i, acc, rs, _, _ => by simp [Fm.ds, enumD, lcLoop, bls, rwos]
  | p :: ps, i, acc, rs, h, hz => by
    simp only [Fm.szs] at hz
    have h1 := h p List.mem_cons_self i rs (by omega)
    have rl := rwo_len ss p (l ++ [i])
    have ih := pas_loop ss T l x1 m μ hl ps (i + 1) (acc ++ [(bl ss p).d false]) (rs ++ (rwo ss (l ++ [i]) p).map rowD) (fun q hq => h q (List.mem_cons_of_mem _ hq)) (by simp only [List.length_append, List.length_map]; omega)
    have en : ((i + 1 : Nat) : Int) = (i : Int) + 1 := by omega
    rw [en] at ih
    have ad : fB gAdd (fVar 2) (fTup (fCons (fVar 5) fNil)) [.val T, x1, .val (pl l), .val (.loc m), .un, .val (.int (i : Int)), .val (p.d false), .un, .un] (μ.set m rs) = .ok (.val (pl (l ++ [i]))) (μ.set m rs) := by
      have z : l.length + 1 ≤ 16777216 := by omega
      simp [fB, fVar, fTup, fCons, fNil, Res.bind, gAdd, pl, LIM, z]
    have st : fFn 4 rc (fCons (fVar 0) (fCons (fVar 6) (fCons (fB gAdd (fVar 2) (fTup (fCons (fVar 5) fNil))) (fCons (fVar 3) fNil)))) [.val T, x1, .val (pl l), .val (.loc m), .un, .val (.int (i : Int)), .val (p.d false), .un, .un] (μ.set m rs) = .ok (.val ((bl ss p).d false)) (μ.set m (rs ++ (rwo ss (l ++ [i]) p).map rowD)) := by
      simp [fFn, fCons, fVar, fNil, Res.bind, h1, ad]
    simp only [Fm.ds, enumD]
    rw [Gn.lc_yes (env' := [.val T, x1, .val (pl l), .val (.loc m), .un, .val (.int (i : Int)), .val (p.d false), .un, .un]) rfl st, ih]
    simp [bls, rwos, Fm.ds]
/-- one def of this kind -/
theorem pas_ok {rc rf : RunF} {gE : FT} {o : FE} (ss : List Fm) (l : List Nat) (m : Nat) (μ : Mu) (hm : m < μ.length) (f : Fm) (rs : List D) (hl : l.length ≤ 1000) (hz : rs.length + f.sz ≤ 1000000) (few : f.few = true)
    (hE : ∀ (env : En) (μ : Mu), env[1]? = some (.val (f.d false)) → gE env μ = .ok (isop f) μ) (ho : ∀ env μ, o env μ = .ok (.val (.tup [])) μ)
    (hf : ∀ g : Fm, g.few = f.few → (f.ok = true → g.ok = true) → g.dp ≤ f.dp → ∀ μ, rf [.tup (Fm.ds false ss), g.d false] μ = .ok (.val (oN (fst ss g))) μ)
    (hc : ∀ s ps, f = .nd s ps → ∀ p ∈ ps, ∀ (j : Nat) (rs : List D), rs.length + p.sz ≤ 1000000 → rc [.tup (Fm.ds false ss), p.d false, pl (l ++ [j]), .loc m] (μ.set m rs) = .ok (.val ((bl ss p).d false)) (μ.set m (rs ++ (rwo ss (l ++ [j]) p).map rowD))) :
    runOf 9 (pasB rc rf gE o) [.tup (Fm.ds false ss), f.d false, pl l, .loc m] (μ.set m rs) = .ok (.val ((bl ss f).d false)) (μ.set m (rs ++ (rwo ss l f).map rowD)) := by
  let x0 : EV := .val (.tup (Fm.ds false ss))
  let x1 : EV := .val (f.d false)
  let x2 : EV := .val (pl l)
  let x3 : EV := .val (.loc m)
  refine Gn.runOf_ret [x0, x1, x2, x3, .un, .un, .un, .un, .un] rfl ?_
  have E := hE [x0, x1, x2, x3, .un, .un, .un, .un, .un] (μ.set m rs) rfl
  cases f with
  | op =>
    have r : fRet (fMv o) [x0, x1, x2, x3, .un, .un, .un, .un, .un] (μ.set m rs) = .ret (.val (.tup [])) (μ.set m rs) := by simp [fRet, fMv, ho, Res.bind, Res.to]
    refine (Gn.fSeq_ret ((Gn.fIf_t E).trans r)).trans ?_
    simp [bl, rwo, Fm.d, sqd]
  | nd s ps =>
    have few2 : ps.length ≤ 1000 ∧ Fm.fews ps = true := by simpa [Fm.few] using few
    simp only [Fm.sz] at hz
    refine (fSeq_nxt (Gn.fIf_n E)).trans ?_
    have v1 : fVar 1 [x0, x1, x2, x3, .un, .un, .un, .un, .un] (μ.set m rs) = .ok (.val (.tup (.str s :: Fm.ds false ps))) (μ.set m rs) := rfl
    have src : fEn (fSl gSl (fVar 1) (fSomeO (fC (.int 1))) fNoO) [x0, x1, x2, x3, .un, .un, .un, .un, .un] (μ.set m rs) = .ok (enumD ((0 : Nat) : Int) (Fm.ds false ps)) (μ.set m rs) := by
      have a := Gn.fSlFrom (fe := fVar 1) (fh := fC (.int 1)) (n := 1) v1 rfl
      simp only [fEn, a, Res.bind, srcD]
      rfl
    have L := pas_loop ss (.tup (Fm.ds false ss)) l x1 m μ hl ps 0 [] rs (hc s ps rfl) (by omega)
    have S1 := Gn.fSetE (i := 4) (fLc_eq (vs := [5, 6]) src (by rw [enumD_len, ds_len, LIM]; omega) L)
    refine (fSeq_nxt S1).trans ?_
    simp only [List.set_cons_succ, List.set_cons_zero, List.nil_append]
    generalize hr1 : rs ++ (rwos ss l 0 ps).map rowD = rs1
    have len1 : rs1.length ≤ rs.length + Fm.szs ps := by
      rw [← hr1, List.length_append, List.length_map]
      have := rwos_len ss ps l 0; omega
    let x4 : EV := .val (.lst (Fm.ds false (bls ss ps)))
    let g : Fm := .nd s (bls ss ps)
    have S2 : fSet 7 (fMv (fB gAdd (fSl gSl (fVar 1) fNoO (fSomeO (fC (.int 1)))) (fCall gTuple (fConsr (fVar 4) fNilr)))) [x0, x1, x2, x3, x4, .un, .un, .un, .un] (μ.set m rs1) = .nxt [x0, x1, x2, x3, x4, .un, .un, .val (g.d false), .un] (μ.set m rs1) := by
      have v1' : fVar 1 [x0, x1, x2, x3, x4, .un, .un, .un, .un] (μ.set m rs1) = .ok (.val (.tup (.str s :: Fm.ds false ps))) (μ.set m rs1) := rfl
      have a := Gn.fSlTo (fe := fVar 1) (fh := fC (.int 1)) (n := 1) v1' rfl
      have b : fCall gTuple (fConsr (fVar 4) fNilr) [x0, x1, x2, x3, x4, .un, .un, .un, .un] (μ.set m rs1) = .ok (.val (.tup (Fm.ds false (bls ss ps)))) (μ.set m rs1) := fTupCall rfl
      have c := fB_eq gAdd a b
      rw [gAdd_tup (by simp only [List.length_take, List.length_cons, ds_len, bls_len, LIM]; omega)] at c
      exact Gn.fSetE c
    refine (fSeq_nxt S2).trans ?_
    obtain ⟨k1, k2, k3, k4⟩ := bls_keep ss ps
    have lb := bls_len ss ps
    have F := hf g (by
        have w : (Fm.nd s ps).few = true := few
        rw [w]
        simp only [g, Fm.few, Bool.and_eq_true, decide_eq_true_eq]
        exact ⟨by omega, k1 few2.2⟩) (fun h => by
        simp only [g, Fm.ok, Bool.and_eq_true] at h ⊢
        exact ⟨h.1, k2 h.2⟩) (by simp only [g, Fm.dp]; omega) (μ.set m rs1)
    have S3 : fSet 8 (fMv (fFn 2 rf (fCons (fVar 0) (fCons (fVar 7) fNil)))) [x0, x1, x2, x3, x4, .un, .un, .val (g.d false), .un] (μ.set m rs1) = .nxt [x0, x1, x2, x3, x4, .un, .un, .val (g.d false), .val (oN (fst ss g))] (μ.set m rs1) := by
      simp [x0, fSet, fMv, fFn, fCons, fVar, fNil, Res.bind, Res.to, F]
    refine (fSeq_nxt S3).trans ?_
    cases hn : fst ss g with
    | none =>
      have T : fTB (fB gIsN (fVar 8) (fC .non)) [x0, x1, x2, x3, x4, .un, .un, .val (g.d false), .val (oN none)] (μ.set m rs1) = .ok true (μ.set m rs1) := rfl
      refine (Gn.fSeq_ret ((Gn.fIf_t T).trans (show _ = SRes.ret (.val (g.d false)) (μ.set m rs1) from rfl))).trans ?_
      have q : fst ss (.nd s (bls ss ps)) = none := hn
      simp only [bl, rwo, q, List.append_nil, hr1]; rfl
    | some n =>
      have T : fTB (fB gIsN (fVar 8) (fC .non)) [x0, x1, x2, x3, x4, .un, .un, .val (g.d false), .val (oN (some n))] (μ.set m rs1) = .ok false (μ.set m rs1) := rfl
      refine (fSeq_nxt (Gn.fIf_n T)).trans ?_
      have gm : (μ.set m rs1)[m]? = some rs1 := List.getElem?_set_self hm
      have z : rs1.length < LIM := by unfold LIM; omega
      have S4 : fApp 3 (fTup (fCons (fVar 2) (fCons (fVar 8) fNil))) [x0, x1, x2, x3, x4, .un, .un, .val (g.d false), .val (oN (some n))] (μ.set m rs1) = .nxt [x0, x1, x2, x3, x4, .un, .un, .val (g.d false), .val (oN (some n))] (μ.set m (rs1 ++ [rowD (l, n)])) := by
        have z2 : (2 : Nat) ≤ LIM := by unfold LIM; omega
        have gl : getL [x0, x1, x2, x3, x4, .un, .un, .val (g.d false), .val (oN (some n))] (μ.set m rs1) 3 = some rs1 := gm
        have tu : fTup (fCons (fVar 2) (fCons (fVar 8) fNil)) [x0, x1, x2, x3, x4, .un, .un, .val (g.d false), .val (oN (some n))] (μ.set m rs1) = .ok (.val (rowD (l, n))) (μ.set m rs1) := by
          simp [x2, fTup, fCons, fVar, fNil, Res.bind, rowD, oN, LIM]
        have pu : putL [x0, x1, x2, x3, x4, .un, .un, .val (g.d false), .val (oN (some n))] (μ.set m rs1) 3 (rs1 ++ [rowD (l, n)]) = ([x0, x1, x2, x3, x4, .un, .un, .val (g.d false), .val (oN (some n))], μ.set m (rs1 ++ [rowD (l, n)])) := by
          show (_, (μ.set m rs1).set m (rs1 ++ [rowD (l, n)])) = _
          rw [List.set_set]
        simp only [fApp, gl, tu, Res.to, z, if_true, pu]
      refine (fSeq_nxt S4).trans ?_
      have q : fst ss (.nd s (bls ss ps)) = some n := hn
      have e1 : rs ++ ((rwos ss l 0 ps) ++ [(l, n)]).map rowD = rs1 ++ [rowD (l, n)] := by rw [← hr1]; simp
      simp only [bl, rwo, q, e1]
      simp [fRet, fMv, ho, Res.bind, Res.to, Fm.d, sqd]
end Kx

set_option linter.all false
set_option maxRecDepth 100000
set_option maxHeartbeats 4000000
namespace Kx
open PySem Q
theorem hE38 (f : Fm) (of : f.ok = true) (env : En) (μ : Mu) (h : env[1]? = some (.val (f.d false))) : fTB (fB gEq (fVar 1) (fC g_OPEN)) env μ = .ok (isop f) μ :=
  Gn.fTB_eq ((fB_eq gEq (fa := fVar 1) (fb := fC g_OPEN) (μ1 := μ) (μ2 := μ) (x := .val (f.d false)) (y := .val (.tup [])) (by simp [fVar, h]) rfl).trans (isOp f of _ _))
theorem hE55 (f : Fm) (of : f.ok = true) (env : En) (μ : Mu) (h : env[1]? = some (.val (f.d false))) : fTB (fB gEq (fVar 1) (fTup fNil)) env μ = .ok (isop f) μ :=
  Gn.fTB_eq ((fB_eq gEq (fa := fVar 1) (fb := fTup fNil) (μ1 := μ) (μ2 := μ) (x := .val (f.d false)) (y := .val (.tup [])) (by simp [fVar, h]) (by simp [fTup, fNil, Res.bind])).trans (isOp f of _ _))
theorem passed_ok (ss : List Fm) (hs : Fm.fews ss = true) (m : Nat) (μ : Mu) (hm : m < μ.length) : ∀ (k : Nat) (f : Fm) (l : List Nat) (rs : List D), f.dp + Fm.dps ss + 4 ≤ k → l.length + f.dp ≤ 1000 → rs.length + f.sz ≤ 1000000 → f.few = true → f.ok = true →
    run k 38 [.tup (Fm.ds false ss), f.d false, pl l, .loc m] (μ.set m rs) = .ok (.val ((bl ss f).d false)) (μ.set m (rs ++ (rwo ss l f).map rowD))
  | 0, f, l, rs, h, _, _, _, _ => by omega
  | k + 1, f, l, rs, hk, hl, hz, few, of => by
    have e : run (k+1) 38 = runOf 9 (pasB (run k 38) (run k 37) (fTB (fB gEq (fVar 1) (fC g_OPEN))) (fC g_OPEN)) := rfl
    rw [e]
    obtain ⟨k, rfl⟩ : ∃ j, k = j + 1 := ⟨k - 1, by omega⟩
    refine pas_ok ss l m μ hm f rs (by omega) hz few (hE38 f of) (fun _ _ => rfl) (fun g h1 h2 h3 μ => first_ok k ss g μ (by omega) hs (h2 of)) fun s ps e p hp j rs hr => ?_
    subst e
    have d := dps_mem hp
    simp only [Fm.dp] at hk hl
    have few2 : ps.length ≤ 1000 ∧ Fm.fews ps = true := by simpa [Fm.few] using few
    have ok2 : PyData.strOk s = true ∧ Fm.oks ps = true := by simpa [Fm.ok] using of
    exact passed_ok ss hs m μ hm (k+1) p (l ++ [j]) rs (by omega) (by simp only [List.length_append, List.length_singleton]; omega) hr (fews_mem few2.2 hp) (oks_mem ok2.2 hp)
theorem below_ok (ss : List Fm) (hs : Fm.fews ss = true) (hn : ss.length ≤ 1000) (ho : Fm.oks ss = true) (m : Nat) (μ : Mu) (hm : m < μ.length) : ∀ (k : Nat) (f : Fm) (l : List Nat) (rs : List D), f.dp + Fm.dps ss + 4 ≤ k → l.length + f.dp ≤ 1000 → rs.length + f.sz ≤ 1000000 → f.few = true → f.ok = true →
    run k 55 [.tup (Fm.ds false ss), f.d false, pl l, .loc m] (μ.set m rs) = .ok (.val ((bl ss f).d false)) (μ.set m (rs ++ (rwo ss l f).map rowD))
  | 0, f, l, rs, h, _, _, _, _ => by omega
  | k + 1, f, l, rs, hk, hl, hz, few, of => by
    have e : run (k+1) 55 = runOf 9 (pasB (run k 55) (run k 54) (fTB (fB gEq (fVar 1) (fTup fNil))) (fTup fNil)) := rfl
    rw [e]
    obtain ⟨k, rfl⟩ : ∃ j, k = j + 1 := ⟨k - 1, by omega⟩
    refine pas_ok ss l m μ hm f rs (by omega) hz few (hE55 f of) (fun _ _ => by simp [fTup, fNil, Res.bind]) (fun g h1 h2 h3 μ => lfirst_ok k ss g μ (by omega) hn hs ho (h2 of)) fun s ps e p hp j rs hr => ?_
    subst e
    have d := dps_mem hp
    simp only [Fm.dp] at hk hl
    have few2 : ps.length ≤ 1000 ∧ Fm.fews ps = true := by simpa [Fm.few] using few
    have ok2 : PyData.strOk s = true ∧ Fm.oks ps = true := by simpa [Fm.ok] using of
    exact below_ok ss hs hn ho m μ hm (k+1) p (l ++ [j]) rs (by omega) (by simp only [List.length_append, List.length_singleton]; omega) hr (fews_mem few2.2 hp) (oks_mem ok2.2 hp)
/-- rows of forms as tuples -/
theorem tups_ok (k : Nat) (c b : Bool) (ps : List Fm) (μ : Mu) (hk : Fm.dps ps + 3 ≤ k) (hf : Fm.fews ps = true) (hl : ps.length ≤ 1000) : run k 1 [sqd c (Fm.ds b ps)] μ = .ok (.val (.tup (Fm.ds false ps))) μ := by
  obtain ⟨k, rfl⟩ : ∃ j, k = j + 1 := ⟨k - 1, by omega⟩
  have e : run (k+1) 1 = runOf 2 (b1 (run k)) := rfl
  rw [e]
  have L := row_loop b (run k 1) (fun p => p.d false) (.val (sqd c (Fm.ds b ps))) μ ps [] fun p hp => tup_ok k b p μ (by have := dps_mem hp; omega) (fews_mem hf hp)
  rw [ds_map, List.nil_append] at L
  have z : (Fm.ds b ps).length ≤ LIM := by rw [ds_len]; unfold LIM; omega
  have T : fTT (fIsi ["list", "tuple"] (fVar 0)) [.val (sqd c (Fm.ds b ps)), .un] μ = .ok true μ := by
    cases c <;> simp [fTT, fIsi, fVar, Res.bind, isi, tyName, sqd, tyGo, subTy, tru]
  have src : fAny (fVar 0) [.val (sqd c (Fm.ds b ps)), .un] μ = .ok (Fm.ds b ps) μ := any_sq c 0 _ _ μ rfl
  have C := fTupCall (fLc_eq (vs := [1]) src z L)
  refine Gn.runOf_ret [.val (sqd c (Fm.ds b ps)), .un] rfl ?_
  unfold b1
  refine Gn.fRetE ?_
  unfold fIf
  rw [T]
  exact C
mutual
theorem noLoc_d (b : Bool) : ∀ f : Fm, noLoc (f.d b) = true
  | .op => by cases b <;> rfl
  | .nd s ps => by
    have := noLocs_ds b ps
    cases b <;> simp [Fm.d, sqd, noLoc, noLocs, this]
theorem noLocs_ds (b : Bool) : ∀ ps : List Fm, noLocs (Fm.ds b ps) = true
  | [] => rfl
  | p :: ps => by simp [Fm.ds, noLocs, noLoc_d b p, noLocs_ds b ps]
end
theorem noLoc_pl (l : List Nat) : noLoc (pl l) = true := by
  have : ∀ l : List Nat, noLocs (l.map fun (n : Nat) => D.int (n : Int)) = true := fun l => by
    induction l with
    | nil => rfl
    | cons n l ih => simp [noLocs, noLoc, ih]
  simp [pl, noLoc, this]
theorem noLocs_rows : ∀ rs : List Row, noLocs (rs.map rowD) = true
  | [] => rfl
  | r :: rs => by simp [rowD, noLocs, noLoc, noLoc_pl, noLocs_rows rs]
theorem noLocM_app {μ : Mu} {ds : List D} (h : noLocM μ = true) (h2 : noLocs ds = true) : noLocM (μ ++ [ds]) = true := by
  unfold noLocM at h ⊢
  rw [List.all_append, h]
  simp [h2]
theorem set_last {μ : Mu} {a b : List D} : (μ ++ [a]).set μ.length b = μ ++ [b] := by
  rw [List.set_append_right _ _ (Nat.le_refl _), Nat.sub_self]; rfl
theorem blot_ok (k : Nat) (c b b' : Bool) (ss : List Fm) (f : Fm) (μ : Mu) (hk : f.dp + Fm.dps ss + 5 ≤ k) (hs : Fm.fews ss = true) (hn : ss.length ≤ 1000) (hd : f.dp ≤ 1000) (hz : f.sz ≤ 1000000) (few : f.few = true) (of : f.ok = true) (hμ : noLocM μ = true) :
    run k 41 [sqd c (Fm.ds b ss), f.d b'] μ = .ok (.val ((bl ss f).d false)) μ := by
  obtain ⟨k, rfl⟩ : ∃ j, k = j + 1 := ⟨k - 1, by omega⟩
  have e : run (k+1) 41 = runOf 2 (b41 (run k)) := rfl
  rw [e]
  have T1 := tups_ok k c b ss μ (by omega) hs hn
  have T2 := tup_ok k b' f μ (by omega) few
  have P := passed_ok ss hs μ.length (μ ++ [[]]) (by simp) k f [] [] (by omega) (by simpa using hd) (by simpa using hz) few of
  rw [set_last, set_last, List.nil_append] at P
  have P : run k 38 [.tup (Fm.ds false ss), f.d false, .tup [], .loc μ.length] (μ ++ [[]]) = .ok (.val ((bl ss f).d false)) (μ ++ [(rwo ss [] f).map rowD]) := P
  have n1 := noLoc_d false (bl ss f)
  have n2 := noLocM_app hμ (noLocs_rows (rwo ss [] f))
  refine Gn.runOf_ret [.val (sqd c (Fm.ds b ss)), .val (f.d b')] rfl ?_
  unfold b41
  refine Gn.fRetE ?_
  simp [fFnL, fConsl, fLast, fLst, fTup, fNil, fFn, fCons, fVar, Res.bind, T1, T2, P, n1, n2]
theorem rows_ok (k : Nat) (ss : List Fm) (f : Fm) (μ : Mu) (hk : f.dp + Fm.dps ss + 5 ≤ k) (hs : Fm.fews ss = true) (hd : f.dp ≤ 1000) (hz : f.sz ≤ 1000000) (few : f.few = true) (of : f.ok = true) (hμ : noLocM μ = true) :
    run k 39 [.tup (Fm.ds false ss), f.d false] μ = .ok (.val (.tup ((rwo ss [] f).map rowD))) μ := by
  obtain ⟨k, rfl⟩ : ∃ j, k = j + 1 := ⟨k - 1, by omega⟩
  have e : run (k+1) 39 = runOf 3 (b39 (run k)) := rfl
  rw [e]
  have P := passed_ok ss hs μ.length (μ ++ [[]]) (by simp) k f [] [] (by omega) (by simpa using hd) (by simpa using hz) few of
  rw [set_last, set_last, List.nil_append] at P
  have P : run k 38 [.tup (Fm.ds false ss), f.d false, .tup [], .loc μ.length] (μ ++ [[]]) = .ok (.val ((bl ss f).d false)) (μ ++ [(rwo ss [] f).map rowD]) := P
  have n1 : noLocE (.val (.tup ((rwo ss [] f).map rowD))) = true := by simp [noLocE, noLoc, noLocs_rows]
  have n2 := noLocM_app hμ (noLocs_rows (rwo ss [] f))
  have S1 : fSet 2 (fMo (fLst fNil)) [.val (.tup (Fm.ds false ss)), .val (f.d false), .un] μ = .nxt [.val (.tup (Fm.ds false ss)), .val (f.d false), .own []] μ := by
    simp [fSet, fMo, fLst, fNil, Res.bind, Res.to]
  refine Gn.runOf_ret [.val (.tup (Fm.ds false ss)), .val (f.d false), .un] rfl ?_
  unfold b39
  rw [fSeq_nxt S1]
  have S2 : fDrop (fFn 4 (run k 38) (fCons (fVar 0) (fCons (fVar 1) (fCons (fTup fNil) (fCons (fVar 2) fNil))))) [.val (.tup (Fm.ds false ss)), .val (f.d false), .val (.loc μ.length)] (μ ++ [[]]) = .nxt [.val (.tup (Fm.ds false ss)), .val (f.d false), .val (.loc μ.length)] (μ ++ [(rwo ss [] f).map rowD]) := by
    simp [fDrop, fFn, fCons, fVar, fTup, fNil, Res.bind, Res.to, P]
  have gl : (μ ++ [(rwo ss [] f).map rowD])[μ.length]? = some ((rwo ss [] f).map rowD) := by
    rw [List.getElem?_append_right (Nat.le_refl _), Nat.sub_self]; rfl
  have S3 : fRet (fMv (fCall gTuple (fConsr (fVar 2) fNilr))) [.val (.tup (Fm.ds false ss)), .val (f.d false), .val (.loc μ.length)] (μ ++ [(rwo ss [] f).map rowD]) = .ret (.val (.tup ((rwo ss [] f).map rowD))) (μ ++ [(rwo ss [] f).map rowD]) := by
    refine Gn.fRetE ?_
    simp [fCall, fConsr, fNilr, fVar, gTuple, sq, SqD.items, Res.bind]
  have S : fSeq (fDrop (fFn 4 (run k 38) (fCons (fVar 0) (fCons (fVar 1) (fCons (fTup fNil) (fCons (fVar 2) fNil)))))) (fRet (fMv (fCall gTuple (fConsr (fVar 2) fNilr)))) [.val (.tup (Fm.ds false ss)), .val (f.d false), .val (.loc μ.length)] (μ ++ [[]]) = .ret (.val (.tup ((rwo ss [] f).map rowD))) (μ ++ [(rwo ss [] f).map rowD]) := (fSeq_nxt S2).trans S3
  show (match fSeq _ _ ([.val (.tup (Fm.ds false ss)), .val (f.d false), .val (.loc μ.length)] : En) (μ ++ [[]]) with
    | .ret d μ' => if noLocE d && noLocM μ' then SRes.ret d μ'.dropLast else .bad
    | .exc e env' μ' => if noLocs ((Exn.fs e).map (fun x : Str × D => x.2)) && noLocM μ' then .exc e (List.replicate env'.length .un) μ'.dropLast else .bad
    | _ => .bad) = _
  rw [S]
  simp [n1, n2]
theorem brows_ok (k : Nat) (c b b' : Bool) (ss : List Fm) (f : Fm) (μ : Mu) (hk : f.dp + Fm.dps ss + 6 ≤ k) (hs : Fm.fews ss = true) (hn : ss.length ≤ 1000) (hd : f.dp ≤ 1000) (hz : f.sz ≤ 1000000) (few : f.few = true) (of : f.ok = true) (hμ : noLocM μ = true) :
    run k 43 [sqd c (Fm.ds b ss), f.d b'] μ = .ok (.val (.tup ((rwo ss [] f).map rowD))) μ := by
  obtain ⟨k, rfl⟩ : ∃ j, k = j + 1 := ⟨k - 1, by omega⟩
  have e : run (k+1) 43 = runOf 2 (b43 (run k)) := rfl
  rw [e]
  have T1 := tups_ok k c b ss μ (by omega) hs hn
  have T2 := tup_ok k b' f μ (by omega) few
  have R := rows_ok k ss f μ (by omega) hs hd hz few of hμ
  refine Gn.runOf_ret [.val (sqd c (Fm.ds b ss)), .val (f.d b')] rfl ?_
  unfold b43
  refine Gn.fRetE ?_
  simp [fFn, fCons, fVar, fNil, Res.bind, T1, T2, R]
theorem whole_ok (k : Nat) (c b b' : Bool) (ss : List Fm) (f : Fm) (μ : Mu) (hk : f.dp + Fm.dps ss + 6 ≤ k) (hs : Fm.fews ss = true) (hn : ss.length ≤ 1000) (hd : f.dp ≤ 1000) (hz : f.sz ≤ 1000000) (few : f.few = true) (of : f.ok = true) (hμ : noLocM μ = true) :
    run k 42 [sqd c (Fm.ds b ss), f.d b'] μ = .ok (.val (.bl (isop (bl ss f)))) μ := by
  obtain ⟨k, rfl⟩ : ∃ j, k = j + 1 := ⟨k - 1, by omega⟩
  have e : run (k+1) 42 = runOf 2 (b42 (run k)) := rfl
  rw [e]
  have B := blot_ok k c b b' ss f μ (by omega) hs hn hd hz few of hμ
  have N := isOp (bl ss f) ((bl_keep ss f).2.1 of) [.val (sqd c (Fm.ds b ss)), .val (f.d b')] μ
  refine Gn.runOf_ret [.val (sqd c (Fm.ds b ss)), .val (f.d b')] rfl ?_
  unfold b42
  refine Gn.fRetE ((fB_eq gEq (x := .val ((bl ss f).d false)) (μ1 := μ) ?_ rfl).trans N)
  simp [fFn, fCons, fVar, fNil, Res.bind, B]
theorem sby_ok (k : Nat) (c b b' : Bool) (ss : List Fm) (f : Fm) (μ : Mu) (hk : f.dp + Fm.dps ss + 5 ≤ k) (hs : Fm.fews ss = true) (hn : ss.length ≤ 1000) (few : f.few = true) (of : f.ok = true) :
    run k 40 [sqd c (Fm.ds b ss), f.d b'] μ = .ok (.val (oN (fst ss f))) μ := by
  obtain ⟨k, rfl⟩ : ∃ j, k = j + 2 := ⟨k - 2, by omega⟩
  have e : run (k+2) 40 = runOf 2 (b40 (run (k+1))) := rfl
  rw [e]
  have T1 := tups_ok (k+1) c b ss μ (by omega) hs hn
  have T2 := tup_ok (k+1) b' f μ (by omega) few
  have R := first_ok k ss f μ (by omega) hs of
  refine Gn.runOf_ret [.val (sqd c (Fm.ds b ss)), .val (f.d b')] rfl ?_
  unfold b40
  refine Gn.fRetE ?_
  simp [fFn, fCons, fVar, fNil, Res.bind, T1, T2, R]
end Kx

set_option linter.all false
set_option maxRecDepth 100000
set_option maxHeartbeats 4000000
namespace Kx
open PySem Q
/-! ### blots by strikes from outside -/
def hit (ss : List Fm) (f : Fm) : Bool := !isop f && ss.any fun s => agr s f
theorem fstN_none (f : Fm) : ∀ (ss : List Fm) (n : Nat), fstN f n ss = none ↔ (ss.any fun s => agr s f) = false
  | [], n => by simp [fstN]
  | s :: ss, n => by
    have ih := fstN_none f ss (n + 1)
    simp only [fstN, List.any_cons, Bool.or_eq_false_iff]
    by_cases h : agr s f = true
    · simp [h]
    · simp only [h, Bool.false_eq_true, if_false]; rw [ih]; simp
theorem fst_none (ss : List Fm) (f : Fm) : fst ss f = none ↔ hit ss f = false := by
  cases f with
  | op => simp [fst, hit, isop]
  | nd s ps => simp only [fst, hit, isop, Bool.not_false, Bool.true_and]; exact fstN_none _ ss 0
mutual
theorem agr_anti : ∀ s g f : Fm, lies g f = true → agr s f = true → agr s g = true
  | .op, g, f, _, _ => agr_op1 g
  | .nd t ts, .op, f, _, _ => rfl
  | .nd t ts, .nd u gs, .op, h, _ => by simp [lies] at h
  | .nd t ts, .nd u gs, .nd v fs, h, a => by
    obtain ⟨e, l, h⟩ := lies_nd h
    obtain ⟨e2, l2, a⟩ := agr_nd a
    have un : unl t ts.length u gs.length = false := by rw [e2, e, l2, l, unl_self]
    simp only [agr, un, Bool.false_eq_true, if_false]
    exact agrA_anti ts gs fs l h a
theorem agrA_anti : ∀ ts gs fs : List Fm, gs.length = fs.length → liesA gs fs = true → agrA ts fs = true → agrA ts gs = true
  | [], _, _, _, _, _ => by simp [agrA]
  | _ :: _, [], _, _, _, _ => by simp [agrA]
  | t :: ts, g :: gs, [], l, h, _ => by simp at l
  | t :: ts, g :: gs, f :: fs, l, h, a => by
    have h : lies g f = true ∧ liesA gs fs = true := by simpa [liesA] using h
    have a := agrA_cons a
    simp only [agrA, Bool.and_eq_true]
    exact ⟨agr_anti t g f h.1 a.1, agrA_anti ts gs fs (by simpa using l) h.2 a.2⟩
end
theorem any_anti {g f : Fm} (h : lies g f = true) {ss : List Fm} (a : (ss.any fun s => agr s f) = true) : (ss.any fun s => agr s g) = true := by
  obtain ⟨s, hs, q⟩ := List.any_eq_true.mp a
  exact List.any_eq_true.mpr ⟨s, hs, agr_anti s g f h q⟩
mutual
theorem bl_lies (ss : List Fm) : ∀ f : Fm, lies (bl ss f) f = true
  | .op => rfl
  | .nd s ps => by
    simp only [bl]
    split
    · have u : unl s (bls ss ps).length s ps.length = false := by rw [bls_len, unl_self]
      simp only [lies, u, Bool.false_eq_true, if_false]
      exact bls_lies ss ps
    · rfl
theorem bls_lies (ss : List Fm) : ∀ ps : List Fm, liesA (bls ss ps) ps = true
  | [] => rfl
  | p :: ps => by simp [bls, liesA, bl_lies ss p, bls_lies ss ps]
end
/-- what is struck as it stands is struck whole -/
theorem bl_hit (ss : List Fm) (f : Fm) (h : hit ss f = true) : bl ss f = .op := by
  cases f with
  | op => rfl
  | nd s ps =>
    have u : unl s (bls ss ps).length s ps.length = false := by rw [bls_len, unl_self]
    have L : lies (.nd s (bls ss ps)) (.nd s ps) = true := by
      simp only [lies, u, Bool.false_eq_true, if_false]
      exact bls_lies ss ps
    simp only [hit, isop, Bool.not_false, Bool.true_and] at h
    have a := any_anti L h
    have n : fst ss (.nd s (bls ss ps)) ≠ none := fun z => by
      have := (fst_none ss _).mp z
      simp only [hit, isop, Bool.not_false, Bool.true_and] at this
      rw [a] at this; cases this
    simp only [bl]
    split
    · rename_i z; exact absurd z n
    · rfl
def tch (ss : List Fm) (f : Fm) (l : List Nat) : Bool := match pt l f with
  | some g => hit ss g
  | none => false
theorem spots_nil : ∀ f : Fm, [] ∈ spots f
  | .op => by simp [spots]
  | .nd _ _ => by simp [spots]
mutual
theorem bl_fix (ss : List Fm) : ∀ f : Fm, (∀ l g, pt l f = some g → hit ss g = false) → bl ss f = f
  | .op, _ => rfl
  | .nd s ps, h => by
    have e := bls_fix ss ps fun i p l g hp hg => h (i :: l) g (by simp only [pt, hp]; exact hg)
    have n := (fst_none ss (.nd s ps)).mpr (h [] _ rfl)
    simp only [bl, e, n]
theorem bls_fix (ss : List Fm) : ∀ ps : List Fm, (∀ (i : Nat) p l g, ps[i]? = some p → pt l p = some g → hit ss g = false) → bls ss ps = ps
  | [], _ => rfl
  | p :: ps, h => by
    simp only [bls, bl_fix ss p fun l g hg => h 0 p l g rfl hg, bls_fix ss ps fun i q l g hq hg => h (i + 1) q l g (by simpa using hq) hg]
end
theorem bls_app (ss : List Fm) : ∀ ps qs : List Fm, bls ss (ps ++ qs) = bls ss ps ++ bls ss qs
  | [], _ => rfl
  | p :: ps, qs => by simp [bls, bls_app ss ps qs]
theorem bl_put (ss : List Fm) : ∀ (l : List Nat) (f g : Fm), pt l f = some g → hit ss g = true → bl ss (putF f l .op) = bl ss f
  | [], f, g, h, hg => by
    simp only [pt, Option.some.injEq] at h
    subst h
    simp only [putF]
    rw [bl_hit ss f hg]; rfl
  | i :: l, .op, g, h, _ => by simp [pt] at h
  | i :: l, .nd s ps, g, h, hg => by
    simp only [pt] at h
    cases hp : ps[i]? with
    | none => rw [hp] at h; simp at h
    | some p =>
      rw [hp] at h
      have ih := bl_put ss l p g h hg
      have e : bls ss (ps.take i ++ putF p l .op :: ps.drop (i + 1)) = bls ss ps := by
        have li : i < ps.length := (List.getElem?_eq_some_iff.mp hp).1
        have cut : ps = ps.take i ++ p :: ps.drop (i + 1) := by
          have e1 : ps.drop i = p :: ps.drop (i + 1) := by
            rw [List.drop_eq_getElem_cons li, (List.getElem?_eq_some_iff.mp hp).2]
          rw [← e1, List.take_append_drop]
        conv => rhs; rw [cut]
        simp only [bls_app, bls, ih]
      simp only [putF, hp, bl, e]
mutual
/-- the number of what is not open -/
def Fm.nds : Fm → Nat
  | .op => 0
  | .nd _ ps => Fm.ndss ps + 1
def Fm.ndss : List Fm → Nat
  | [] => 0
  | p :: ps => Fm.nds p + Fm.ndss ps
end
theorem ndss_app : ∀ ps qs : List Fm, Fm.ndss (ps ++ qs) = Fm.ndss ps + Fm.ndss qs
  | [], qs => by simp [Fm.ndss]
  | p :: ps, qs => by simp only [List.cons_append, Fm.ndss, ndss_app ps qs]; omega
theorem nds_put : ∀ (l : List Nat) (f g : Fm), pt l f = some g → (putF f l .op).nds + g.nds = f.nds
  | [], f, g, h => by
    simp only [pt, Option.some.injEq] at h
    subst h
    simp [putF, Fm.nds]
  | i :: l, .op, g, h => by simp [pt] at h
  | i :: l, .nd s ps, g, h => by
    simp only [pt] at h
    cases hp : ps[i]? with
    | none => rw [hp] at h; simp at h
    | some p =>
      rw [hp] at h
      have ih := nds_put l p g h
      have li : i < ps.length := (List.getElem?_eq_some_iff.mp hp).1
      have cut : ps = ps.take i ++ p :: ps.drop (i + 1) := by
        have e1 : ps.drop i = p :: ps.drop (i + 1) := by
          rw [List.drop_eq_getElem_cons li, (List.getElem?_eq_some_iff.mp hp).2]
        rw [← e1, List.take_append_drop]
      have c2 : Fm.ndss ps = Fm.ndss (ps.take i) + (p.nds + Fm.ndss (ps.drop (i + 1))) := by
        conv => lhs; rw [cut]
        rw [ndss_app]; rfl
      simp only [putF, hp, Fm.nds, ndss_app, Fm.ndss, c2]
      omega
/-! the law's words for it -/
theorem lc_agr (k : Nat) (ss : List Fm) (g : Fm) (μ : Mu) (hk : Fm.dps ss + 1 ≤ k) (hs : Fm.fews ss = true) (ho : Fm.oks ss = true) (og : g.ok = true) (hn : ss.length ≤ 1000) :
    fLc (fAny (fVar 0)) (.nm 2) (fTT (fFn 2 (run k 45) (fCons (fVar 2) (fCons (fVar 1) fNil)))) (fVar 2) [2] [.val (.tup (Fm.ds false ss)), .val (g.d false), .un] μ = .ok (.val (.lst (Fm.ds false (ss.filter fun s => agr s g)))) μ := by
  have F := Gn.flt 2 (fTT (fFn 2 (run k 45) (fCons (fVar 2) (fCons (fVar 1) fNil)))) [.val (.tup (Fm.ds false ss)), .val (g.d false), .un] (fun s : Fm => s.d false) (fun s => agr s g) μ (by simp) ss [] fun s hm => by
    have A := lagr_ok k s g μ (by have := dps_mem hm; omega) (fews_mem hs hm) (oks_mem ho hm) og
    simp [fTT, fFn, fCons, fVar, fNil, Res.bind, A, tru]
  rw [ds_map, ds_map, List.nil_append] at F
  exact fLc_eq (fi := fAny (fVar 0)) (by simp [fAny, fVar]) (by rw [ds_len, LIM]; omega) F
theorem touched_ok (k : Nat) (ss : List Fm) (g : Fm) (μ : Mu) (hk : Fm.dps ss + 1 ≤ k) (hs : Fm.fews ss = true) (ho : Fm.oks ss = true) (og : g.ok = true) (hn : ss.length ≤ 1000) : run (k+1) 47 [.tup (Fm.ds false ss), g.d false] μ = .ok (.val (.bl (hit ss g))) μ := by
  have e : run (k+1) 47 = runOf 3 (b47 (run k)) := rfl
  rw [e]
  let env : En := [.val (.tup (Fm.ds false ss)), .val (g.d false), .un]
  have A : fB gNe (fVar 1) (fTup fNil) env μ = .ok (.val (.bl (!isop g))) μ := (fB_eq gNe (fa := fVar 1) (fb := fTup fNil) (μ1 := μ) (x := .val (g.d false)) (y := .val (.tup [])) rfl (by simp [fTup, fNil, Res.bind])).trans (isNop g og _ _)
  have C := lc_agr k ss g μ hk hs ho og hn
  have N : gNe env (.val (.lst (Fm.ds false (ss.filter fun s => agr s g)))) (.val (.lst [])) μ = .ok (.val (.bl (ss.any fun s => agr s g))) μ := by
    have ok2 : Fm.oks (ss.filter fun s => agr s g) = true := by
      have go : ∀ xs : List Fm, (∀ x ∈ xs, x.ok = true) → Fm.oks xs = true := fun xs => by
        induction xs with
        | nil => exact fun _ => rfl
        | cons x xs ih => exact fun h => by simp [Fm.oks, h x List.mem_cons_self, ih fun y hy => h y (List.mem_cons_of_mem _ hy)]
      exact go _ fun x hx => oks_mem ho (List.mem_filter.mp hx).1
    rw [gNe_plain (by simpa [D.plain] using plain_ds false _ ok2) rfl (by simp [D.dep, D.deps]) (fun n z => by cases z) (fun n z => by cases z)]
    have q : D.eq (.lst (Fm.ds false (ss.filter fun s => agr s g))) (.lst []) = !(ss.any fun s => agr s g) := by
      simp only [D.eq]
      cases h : ss.filter fun s => agr s g with
      | nil =>
        have : (ss.any fun s => agr s g) = false := by
          rw [List.any_eq_false]
          intro x hx a
          have m : x ∈ ss.filter fun s => agr s g := List.mem_filter.mpr ⟨hx, by simpa using a⟩
          rw [h] at m; cases m
        rw [this]; rfl
      | cons x xs =>
        have : (ss.any fun s => agr s g) = true := by
          have m : x ∈ ss.filter fun s => agr s g := by rw [h]; exact List.mem_cons_self
          obtain ⟨h1, h2⟩ := List.mem_filter.mp m
          exact List.any_eq_true.mpr ⟨x, h1, h2⟩
        rw [this]; rfl
    rw [q, Bool.not_not]
  have B : fB gNe (fLc (fAny (fVar 0)) (.nm 2) (fTT (fFn 2 (run k 45) (fCons (fVar 2) (fCons (fVar 1) fNil)))) (fVar 2) [2]) (fLst fNil) env μ = .ok (.val (.bl (ss.any fun s => agr s g))) μ := (fB_eq gNe (y := .val (.lst [])) (μ2 := μ) C (by simp [fLst, fNil, Res.bind])).trans N
  refine Gn.runOf_ret env rfl ?_
  unfold b47
  refine Gn.fRetE ?_
  unfold fAndV
  rw [A]
  unfold hit
  cases isop g with
  | true => rfl
  | false => exact B
end Kx

set_option linter.all false
set_option maxRecDepth 100000
set_option maxHeartbeats 4000000
namespace Kx
open PySem Q
abbrev lblB (k : Nat) : FS := (fSeq (fSet 4 (fMv (fLc (fAny (fFn 1 (run k 18) (fCons (fVar 2) fNil))) (.nm 5) (fTT (fFn 2 (run k 47) (fCons (fVar 0) (fCons (fFn 2 (run k 19) (fCons (fVar 2) (fCons (fVar 5) fNil))) fNil)))) (fVar 5) [5])))
    (fSeq (fIfS (fTB (fB gEq (fVar 4) (fLst fNil))) (fRet (fMv (fVar 2))) fNext)
    (fSet 2 (fMv (fFn 3 (run k 20) (fCons (fVar 2) (fCons (fB gIx (fVar 4) (fC (.int 0))) (fCons (fTup fNil) fNil))))))))
theorem lblot_loop (k : Nat) (ss : List Fm) (hk : 14 ≤ k ∧ Fm.dps ss + 2 ≤ k) (hs : Fm.fews ss = true) (ho : Fm.oks ss = true) (hn : ss.length ≤ 1000) (x1 : EV) (μ : Mu) : ∀ (m : Nat) (i : Int) (f : Fm) (e3 e4 : EV), f.fine = true → f.dp ≤ 9 → f.nds < m →
    loop (.nm 3) (lblB k) (rangeD i m) [.val (.tup (Fm.ds false ss)), x1, .val (f.d false), e3, e4, .un] μ = .ret (.val ((bl ss f).d false)) μ
  | 0, i, f, e3, e4, _, _, h => by omega
  | m + 1, i, f, e3, e4, ff, fd, hm => by
    obtain ⟨k, rfl⟩ : ∃ j, k = j + 1 := ⟨k - 1, by omega⟩
    have fo := fine_ok f ff
    have sz := fine_sz9 ff fd
    have sp := spots_ok (k+1) f μ (by omega) (by omega) sz
    have sl := spots_len f
    let e0 : EV := .val (.tup (Fm.ds false ss))
    let env : En := [e0, x1, .val (f.d false), .val (.int i), e4, .un]
    have F := Gn.flt 5 (fTT (fFn 2 (run (k+1) 47) (fCons (fVar 0) (fCons (fFn 2 (run (k+1) 19) (fCons (fVar 2) (fCons (fVar 5) fNil))) fNil)))) env pl (tch ss f) μ (by simp [env]) (spots f) [] fun l hl => by
      obtain ⟨g, hg⟩ := spots_pt f l hl
      have A := at_ok k l f g μ hg
      have T := touched_ok k ss g μ (by omega) hs ho (pt_ok l f g hg fo) hn
      have q : tch ss f l = hit ss g := by simp [tch, hg]
      rw [q]
      simp [env, e0, fTT, fFn, fCons, fVar, fNil, Res.bind, A, T, tru]
    rw [List.nil_append] at F
    have S1 : fSet 4 (fMv (fLc (fAny (fFn 1 (run (k+1) 18) (fCons (fVar 2) fNil))) (.nm 5) (fTT (fFn 2 (run (k+1) 47) (fCons (fVar 0) (fCons (fFn 2 (run (k+1) 19) (fCons (fVar 2) (fCons (fVar 5) fNil))) fNil)))) (fVar 5) [5])) env μ = .nxt [e0, x1, .val (f.d false), .val (.int i), .val (.lst (((spots f).filter (tch ss f)).map pl)), .un] μ := by
      refine Gn.fSetE (fLc_eq (vs := [5]) ?_ (show ((spots f).map pl).length ≤ LIM by rw [List.length_map, LIM]; omega) F)
      simp [env, fAny, fFn, fCons, fVar, fNil, Res.bind, sp]
    have E : fTB (fB gEq (fVar 4) (fLst fNil)) [e0, x1, .val (f.d false), .val (.int i), .val (.lst (((spots f).filter (tch ss f)).map pl)), .un] μ = .ok ((spots f).filter (tch ss f)).isEmpty μ := by
      have g := gEq_plain (a := .lst (((spots f).filter (tch ss f)).map pl)) (b := .lst []) (env := [e0, x1, .val (f.d false), .val (.int i), .val (.lst (((spots f).filter (tch ss f)).map pl)), .un]) (μ := μ) (by simpa [D.plain] using plains_pl _) rfl (by simp [D.dep, D.deps]) (fun n z => by cases z) (fun n z => by cases z)
      have q : D.eq (.lst (((spots f).filter (tch ss f)).map pl)) (.lst []) = ((spots f).filter (tch ss f)).isEmpty := by
        simp only [D.eq]
        cases (spots f).filter (tch ss f) <;> rfl
      rw [q] at g
      exact Gn.fTB_eq ((fB_eq gEq (fa := fVar 4) (fb := fLst fNil) (μ1 := μ) (y := .val (.lst [])) rfl (by simp [fLst, fNil, Res.bind])).trans g)
    simp only [rangeD]
    cases h : (spots f).filter (tch ss f) with
    | nil =>
      rw [h] at E S1
      have fix : bl ss f = f := bl_fix ss f fun l g hg => by
        have ml := pt_spots f g l hg
        cases z : hit ss g with
        | false => rfl
        | true =>
          have t : tch ss f l = true := by simp [tch, hg, z]
          have := List.mem_filter.mpr ⟨ml, t⟩
          rw [h] at this; cases this
      rw [fix]
      exact Gn.loop_ret (t := .nm 3) (b := lblB (k+1)) (d := .int i) (ds := rangeD (i + 1) m) (env := [e0, x1, .val (f.d false), e3, e4, .un]) (env1 := env) (μ := μ) rfl ((fSeq_nxt S1).trans (Gn.fSeq_ret ((Gn.fIf_t E).trans rfl)))
    | cons l ls =>
      rw [h] at E S1
      have mem : l ∈ (spots f).filter (tch ss f) := by rw [h]; exact List.mem_cons_self
      obtain ⟨ml, ht⟩ := List.mem_filter.mp mem
      obtain ⟨g, hg⟩ := spots_pt f l ml
      have hh : hit ss g = true := by simpa [tch, hg] using ht
      have P := put_ok l (k+1) f g (.tup []) μ hg (by have := pt_dp l f g hg; omega) (fine_few f ff)
      have pd : putD f l (.tup []) = (putF f l .op).d false := put_d l f g .op hg
      rw [pd] at P
      have pf := putF_ok l f g .op hg ff rfl
      have nd := nds_put l f g hg
      have pdp := pt_dp l f g hg
      have g1 : 1 ≤ g.nds := by
        cases g with
        | op => simp [hit, isop] at hh
        | nd s ps => simp [Fm.nds]
      have d2 : (putF f l .op).dp ≤ 9 := by have := pf.2; simp only [Fm.dp] at this; omega
      have S3 : fSet 2 (fMv (fFn 3 (run (k+1) 20) (fCons (fVar 2) (fCons (fB gIx (fVar 4) (fC (.int 0))) (fCons (fTup fNil) fNil))))) [e0, x1, .val (f.d false), .val (.int i), .val (.lst ((l :: ls).map pl)), .un] μ = .nxt [e0, x1, .val ((putF f l .op).d false), .val (.int i), .val (.lst ((l :: ls).map pl)), .un] μ := by
        simp [fSet, fMv, fFn, fCons, fVar, fB, fC, gIx, sq, SqD.items, L2.atI, L2.ixN, fTup, fNil, Res.bind, Res.to, P]
      have ih := lblot_loop (k+1) ss hk hs ho hn x1 μ m (i + 1) (putF f l .op) (.val (.int i)) (.val (.lst ((l :: ls).map pl))) pf.1 d2 (by omega)
      rw [bl_put ss l f g hg hh] at ih
      exact (Gn.loop_nxt (t := .nm 3) (b := lblB (k+1)) (d := .int i) (ds := rangeD (i + 1) m) (env := [e0, x1, .val (f.d false), e3, e4, .un]) (env1 := env) (μ := μ) rfl ((fSeq_nxt S1).trans ((fSeq_nxt (Gn.fIf_n E)).trans S3))).trans ih
theorem lblot_ok (k : Nat) (ss : List Fm) (hk : 14 ≤ k ∧ Fm.dps ss + 2 ≤ k) (hs : Fm.fews ss = true) (ho : Fm.oks ss = true) (hn : ss.length ≤ 1000) (f : Fm) (μ : Mu) (ff : f.fine = true) (fd : f.dp ≤ 9) (hm : f.nds < 400) : run (k+1) 48 [.tup (Fm.ds false ss), f.d false] μ = .ok (.val ((bl ss f).d false)) μ := by
  have e : run (k+1) 48 = runOf 6 (b48 (run k)) := rfl
  rw [e]
  have L := lblot_loop k ss hk hs ho hn (.val (f.d false)) μ 400 0 f .un .un ff fd hm
  have S1 : fSet 2 (fMv (fVar 1)) [.val (.tup (Fm.ds false ss)), .val (f.d false), .un, .un, .un, .un] μ = .nxt [.val (.tup (Fm.ds false ss)), .val (f.d false), .val (f.d false), .un, .un, .un] μ := rfl
  have S2 := Gn.fFor_nxt (t := .nm 3) (Gn.fRng1_eq (fa := fC (.int 400)) (env := [.val (.tup (Fm.ds false ss)), .val (f.d false), .val (f.d false), .un, .un, .un]) (μ := μ) (n := 400) rfl (by omega)) L
  refine Gn.runOf_ret [.val (.tup (Fm.ds false ss)), .val (f.d false), .un, .un, .un, .un] rfl ?_
  unfold b48
  exact (fSeq_nxt S1).trans (Gn.fSeq_ret S2)
end Kx

set_option linter.all false
set_option maxRecDepth 100000
set_option maxHeartbeats 4000000
namespace Kx
open PySem Q
/-! ### one case of k07 -/
theorem nw_oN (o : Option Nat) : Nw (oN o) := by
  cases o with
  | none => exact nw_non
  | some n => exact ⟨rfl, rfl, by simp [oN, D.dep]⟩
theorem row_facts : ∀ rs : List Row, (∀ r ∈ rs, r.1.length ≤ 1000) → nices (rs.map rowD) = true ∧ wides (rs.map rowD) = true ∧ D.deps (rs.map rowD) ≤ 2
  | [], _ => ⟨rfl, rfl, by simp [D.deps]⟩
  | r :: rs, h => by
    obtain ⟨a, b, c⟩ := row_facts rs fun x hx => h x (List.mem_cons_of_mem _ hx)
    have l := h r List.mem_cons_self
    have z : r.1.length ≤ 16777216 := by omega
    have d1 := pl_dep r.1
    refine ⟨by simp [rowD, pl, nices, nice, nices_ints, a], by simp [rowD, pl, wides, wide, wides_ints, b, z], ?_⟩
    simp only [List.map_cons, D.deps, rowD, pl, D.dep, d1]; omega
mutual
theorem rwo_deep (ss : List Fm) : ∀ (f : Fm) (l : List Nat) (r : Row), r ∈ rwo ss l f → r.1.length ≤ l.length + f.dp
  | .op, l, r, h => by simp [rwo] at h
  | .nd s ps, l, r, h => by
    simp only [rwo] at h
    rcases List.mem_append.mp h with h | h
    · have := rwos_deep ss ps l 0 r h
      simp only [Fm.dp]; omega
    · split at h
      · cases h
      · rw [List.mem_singleton.mp h]; simp only; omega
theorem rwos_deep (ss : List Fm) : ∀ (ps : List Fm) (l : List Nat) (i : Nat) (r : Row), r ∈ rwos ss l i ps → r.1.length ≤ l.length + 1 + Fm.dps ps
  | [], l, i, r, h => by simp [rwos] at h
  | p :: ps, l, i, r, h => by
    simp only [rwos] at h
    rcases List.mem_append.mp h with h | h
    · have := rwo_deep ss p (l ++ [i]) r h
      simp only [List.length_append, List.length_singleton] at this
      simp only [Fm.dps]; omega
    · have := rwos_deep ss ps l (i + 1) r h
      simp only [Fm.dps]; omega
end
theorem nw_rows (ss : List Fm) (f : Fm) (hd : f.dp ≤ 900) (hz : f.sz ≤ 1000000) : Nw (.tup ((rwo ss [] f).map rowD)) := by
  obtain ⟨a, b, c⟩ := row_facts (rwo ss [] f) fun r hr => by have := rwo_deep ss f [] r hr; simp only [List.length_nil] at this; omega
  have l := rwo_len ss f []
  have z : (rwo ss [] f).length ≤ 16777216 := by omega
  exact ⟨by simpa [nice] using a, by simp [wide, b, z], by simp only [D.dep]; omega⟩
def atF (f : Fm) (l : List Nat) : Fm := (pt l f).getD .op
abbrev looks (ss : List Fm) (f : Fm) (ls : List (List Nat)) : List D := ls.map fun l => oN (fst ss (atF f l))
abbrev lookB (k : Nat) : FS := (fSeq (fSet 8 (fMv (fFn 2 (run k 19) (fCons (fVar 1) (fCons (fVar 7) fNil)))))
    (fSeq (fApp 5 (fFn 2 (run k 40) (fCons (fVar 0) (fCons (fVar 8) fNil))))
    (fApp 6 (fFn 2 (run k 54) (fCons (fVar 0) (fCons (fVar 8) fNil))))))
theorem look_loop7 (k : Nat) (ss : List Fm) (f : Fm) (hk : f.dp + Fm.dps ss + 6 ≤ k) (hs : Fm.fews ss = true) (ho : Fm.oks ss = true) (hn : ss.length ≤ 1000) (ff : f.fine = true) (x2 x3 x4 : EV) (μ : Mu) : ∀ (ls : List (List Nat)) (got due : List D) (e7 e8 : EV), (∀ l ∈ ls, l ∈ spots f) → got.length + ls.length ≤ 1000000 → due.length + ls.length ≤ 1000000 →
    ∃ a7 a8, loop (.nm 7) (lookB k) (ls.map pl) [.val (.tup (Fm.ds false ss)), .val (f.d false), x2, x3, x4, .own got, .own due, e7, e8] μ = .nxt [.val (.tup (Fm.ds false ss)), .val (f.d false), x2, x3, x4, .own (got ++ looks ss f ls), .own (due ++ looks ss f ls), a7, a8] μ
  | [], got, due, e7, e8, _, _, _ => ⟨e7, e8, by simp [loop]⟩
  | l :: ls, got, due, e7, e8, hm, h1, h2 => by
    simp only [List.length_cons] at h1 h2
    obtain ⟨k, rfl⟩ : ∃ j, k = j + 1 := ⟨k - 1, by omega⟩
    obtain ⟨g, hg⟩ := spots_pt f l (hm l List.mem_cons_self)
    have gd := pt_dp l f g hg
    have go := pt_ok l f g hg (fine_ok f ff)
    have gf : g.few = true := by
      have : ∀ (l : List Nat) (f g : Fm), pt l f = some g → f.few = true → g.few = true := fun l => by
        induction l with
        | nil => intro f g h hf; simp only [pt, Option.some.injEq] at h; rw [← h]; exact hf
        | cons i l ih =>
          intro f g h hf
          cases f with
          | op => simp [pt] at h
          | nd s ps =>
            simp only [pt] at h
            cases hp : ps[i]? with
            | none => rw [hp] at h; simp at h
            | some p =>
              rw [hp] at h
              have hf2 : ps.length ≤ 1000 ∧ Fm.fews ps = true := by simpa [Fm.few] using hf
              exact ih p g h (fews_get hp hf2.2)
      exact this l f g hg (fine_few f ff)
    have A := at_ok k l f g μ hg
    have B : run (k+1) 40 [.tup (Fm.ds false ss), g.d false] μ = .ok (.val (oN (fst ss g))) μ := sby_ok (k+1) false false false ss g μ (by omega) hs hn gf go
    have C := lfirst_ok k ss g μ (by omega) hn hs ho go
    have q : atF f l = g := by simp [atF, hg]
    have z1 : got.length < LIM := by unfold LIM; omega
    have z2 : due.length < LIM := by unfold LIM; omega
    obtain ⟨a7, a8, ih⟩ := look_loop7 (k+1) ss f hk hs ho hn ff x2 x3 x4 μ ls (got ++ [oN (fst ss g)]) (due ++ [oN (fst ss g)]) (.val (pl l)) (.val (g.d false)) (fun x hx => hm x (List.mem_cons_of_mem _ hx)) (by simp only [List.length_append, List.length_singleton]; omega) (by simp only [List.length_append, List.length_singleton]; omega)
    refine ⟨a7, a8, ?_⟩
    have S1 : fSet 8 (fMv (fFn 2 (run (k+1) 19) (fCons (fVar 1) (fCons (fVar 7) fNil)))) [.val (.tup (Fm.ds false ss)), .val (f.d false), x2, x3, x4, .own got, .own due, .val (pl l), e8] μ = .nxt [.val (.tup (Fm.ds false ss)), .val (f.d false), x2, x3, x4, .own got, .own due, .val (pl l), .val (g.d false)] μ := by
      simp [fSet, fMv, fFn, fCons, fVar, fNil, Res.bind, Res.to, A]
    have S2 : fApp 5 (fFn 2 (run (k+1) 40) (fCons (fVar 0) (fCons (fVar 8) fNil))) [.val (.tup (Fm.ds false ss)), .val (f.d false), x2, x3, x4, .own got, .own due, .val (pl l), .val (g.d false)] μ = .nxt [.val (.tup (Fm.ds false ss)), .val (f.d false), x2, x3, x4, .own (got ++ [oN (fst ss g)]), .own due, .val (pl l), .val (g.d false)] μ := by
      simp [fApp, getL, putL, fFn, fCons, fVar, fNil, Res.bind, Res.to, B, z1]
    have S3 : fApp 6 (fFn 2 (run (k+1) 54) (fCons (fVar 0) (fCons (fVar 8) fNil))) [.val (.tup (Fm.ds false ss)), .val (f.d false), x2, x3, x4, .own (got ++ [oN (fst ss g)]), .own due, .val (pl l), .val (g.d false)] μ = .nxt [.val (.tup (Fm.ds false ss)), .val (f.d false), x2, x3, x4, .own (got ++ [oN (fst ss g)]), .own (due ++ [oN (fst ss g)]), .val (pl l), .val (g.d false)] μ := by
      simp [fApp, getL, putL, fFn, fCons, fVar, fNil, Res.bind, Res.to, C, z2]
    rw [List.map_cons]
    refine (Gn.loop_nxt (t := .nm 7) (b := lookB (k+1)) (env1 := [.val (.tup (Fm.ds false ss)), .val (f.d false), x2, x3, x4, .own got, .own due, .val (pl l), e8]) rfl ((fSeq_nxt S1).trans ((fSeq_nxt S2).trans S3))).trans ?_
    rw [ih]
    simp [looks, q]
theorem case7_ok (k : Nat) (hk : 30 ≤ k) (ss : List Fm) (f : Fm) (hs : Fm.fines ss = true) (hn : ss.length ≤ 100) (ds : Fm.dps ss ≤ 9) (ff : f.fine = true) (fd : f.dp ≤ 9) (hz : f.sz ≤ 399) (μ : Mu) (hμ : noLocM μ = true) : run (k+1) 56 [.tup (Fm.ds false ss), f.d false] μ = .ok (.val (.bl true)) μ := by
  have e : run (k+1) 56 = runOf 9 (b56 (run k)) := rfl
  rw [e]
  obtain ⟨k, rfl⟩ : ∃ j, k = j + 1 := ⟨k - 1, by omega⟩
  have sf := fines_fews ss hs
  have so := fines_oks ss hs
  have fo := fine_ok f ff
  have fw := fine_few f ff
  have bk := bl_keep ss f
  let RW : List D := (rwo ss [] f).map rowD
  let x0 : EV := .val (.tup (Fm.ds false ss))
  let x1 : EV := .val (f.d false)
  let x2 : EV := .val (.loc μ.length)
  let x3 : EV := .val (f.d true)
  let x4 : EV := .val ((bl ss f).d false)
  have nM := noLocM_app hμ (noLocs_rows (rwo ss [] f))
  have LF := lst_ok (k+1) false f μ (by omega) fw
  have LB := lblot_ok k ss ⟨by omega, by omega⟩ sf so (by omega) f (μ ++ [[]]) ff fd (by
    have : ∀ f : Fm, f.nds ≤ f.sz := fun f => by
      have go : (∀ f : Fm, f.nds ≤ f.sz) := by
        intro f
        exact (Fm.rec (motive_1 := fun f => f.nds ≤ f.sz) (motive_2 := fun ps => Fm.ndss ps ≤ Fm.szs ps) (by simp [Fm.nds, Fm.sz]) (fun s ps ih => by simp only [Fm.nds, Fm.sz]; omega) (by simp [Fm.ndss, Fm.szs]) (fun p ps h1 h2 => by simp only [Fm.ndss, Fm.szs]; omega) f)
      exact go f
    have := this f; omega)
  have BE := below_ok ss sf (by omega) so μ.length (μ ++ [[]]) (by simp) (k+1) f [] [] (by omega) (by simp only [List.length_nil]; omega) (by simp only [List.length_nil]; omega) fw fo
  rw [set_last, set_last, List.nil_append] at BE
  have BE : run (k+1) 55 [.tup (Fm.ds false ss), f.d false, .tup [], .loc μ.length] (μ ++ [[]]) = .ok (.val ((bl ss f).d false)) (μ ++ [RW]) := BE
  have nB := nw_d false (bl ss f) (bk.2.2.1 ff) (by omega)
  have SA := same_ok (k+1) ((bl ss f).d false) (μ ++ [RW]) (by have := nB.d; omega) nB.n nB.w
  have LS : run (k+1) 16 [.tup (Fm.ds false ss)] (μ ++ [RW]) = .ok (.val (.lst (Fm.ds true ss))) (μ ++ [RW]) := lsts_ok (k+1) false false ss (μ ++ [RW]) (by omega) sf (by omega)
  have LF2 := lst_ok (k+1) false f (μ ++ [RW]) (by omega) fw
  have B1 : run (k+1) 41 [.tup (Fm.ds false ss), f.d false] (μ ++ [RW]) = .ok (.val ((bl ss f).d false)) (μ ++ [RW]) := blot_ok (k+1) false false false ss f (μ ++ [RW]) (by omega) sf (by omega) (by omega) (by omega) fw fo nM
  have B2 : run (k+1) 41 [.lst (Fm.ds true ss), f.d true] (μ ++ [RW]) = .ok (.val ((bl ss f).d false)) (μ ++ [RW]) := blot_ok (k+1) true true true ss f (μ ++ [RW]) (by omega) sf (by omega) (by omega) (by omega) fw fo nM
  have R1 : run (k+1) 43 [.tup (Fm.ds false ss), f.d false] (μ ++ [RW]) = .ok (.val (.tup RW)) (μ ++ [RW]) := brows_ok (k+1) false false false ss f (μ ++ [RW]) (by omega) sf (by omega) (by omega) (by omega) fw fo nM
  have R2 : run (k+1) 43 [.lst (Fm.ds true ss), f.d true] (μ ++ [RW]) = .ok (.val (.tup RW)) (μ ++ [RW]) := brows_ok (k+1) true true true ss f (μ ++ [RW]) (by omega) sf (by omega) (by omega) (by omega) fw fo nM
  have W1 : run (k+1) 42 [.tup (Fm.ds false ss), f.d false] (μ ++ [RW]) = .ok (.val (.bl (isop (bl ss f)))) (μ ++ [RW]) := whole_ok (k+1) false false false ss f (μ ++ [RW]) (by omega) sf (by omega) (by omega) (by omega) fw fo nM
  have sp := spots_ok (k+1) f (μ ++ [RW]) (by omega) (by omega) (by omega)
  have sl := spots_len f
  have gl : (μ ++ [RW])[μ.length]? = some RW := by
    rw [List.getElem?_append_right (Nat.le_refl _), Nat.sub_self]; rfl
  let B : D := (bl ss f).d false
  let got0 : List D := [B, B, B, .tup RW, .tup RW, .bl (isop (bl ss f))]
  obtain ⟨a7, a8, LL⟩ := look_loop7 (k+1) ss f (by omega) sf so (by omega) ff x2 x3 x4 (μ ++ [RW]) (spots f) got0 got0 .un .un (fun l h => h) (by simp only [got0, List.length_cons, List.length_nil]; omega) (by simp only [got0, List.length_cons, List.length_nil]; omega)
  have S0 : fPar 2 3 (fMo (fLst fNil)) (fMv (fFn 1 (run (k+1) 16) (fCons (fVar 1) fNil))) [x0, x1, .un, .un, .un, .un, .un, .un, .un] μ = .nxt [x0, x1, .own [], x3, .un, .un, .un, .un, .un] μ := by
    simp [x1, x3, fPar, fMo, fMv, fLst, fNil, fFn, fCons, fVar, Res.bind, Res.to, LF]
  have T1 : fSet 4 (fMv (fFn 2 (run (k+1) 48) (fCons (fVar 0) (fCons (fVar 1) fNil)))) [x0, x1, x2, x3, .un, .un, .un, .un, .un] (μ ++ [[]]) = .nxt [x0, x1, x2, x3, x4, .un, .un, .un, .un] (μ ++ [[]]) := by
    simp [x0, x1, x4, fSet, fMv, fFn, fCons, fVar, fNil, Res.bind, Res.to, LB]
  have T2 : fIfS (fNot (fTT (fFn 2 (run (k+1) 17) (fCons (fFn 4 (run (k+1) 55) (fCons (fVar 0) (fCons (fVar 1) (fCons (fTup fNil) (fCons (fVar 2) fNil))))) (fCons (fVar 4) fNil))))) (fRet (fMv (fC (.bl false)))) fNext [x0, x1, x2, x3, x4, .un, .un, .un, .un] (μ ++ [[]]) = .nxt [x0, x1, x2, x3, x4, .un, .un, .un, .un] (μ ++ [RW]) := by
    simp [x0, x1, x2, x4, fIfS, fNot, fTT, tru, fFn, fCons, fVar, fTup, fNil, Res.bind, Res.to, BE, SA, fNext]
  have T3 : fSet 5 (fMo (fLst (fCons (fFn 2 (run (k+1) 41) (fCons (fVar 0) (fCons (fVar 1) fNil))) (fCons (fFn 2 (run (k+1) 41) (fCons (fFn 1 (run (k+1) 16) (fCons (fVar 0) fNil)) (fCons (fVar 3) fNil))) (fCons (fFnK 2 0 2 [1, 0] (run (k+1) 41) fNil (fCons (fVar 1) (fCons (fVar 0) fNil))) fNil))))) [x0, x1, x2, x3, x4, .un, .un, .un, .un] (μ ++ [RW]) = .nxt [x0, x1, x2, x3, x4, .own [B, B, B], .un, .un, .un] (μ ++ [RW]) := by
    simp [x0, x1, x3, B, fSet, fMo, fLst, fCons, fFn, fFnK, fVar, fNil, perm, Res.nx, Res.bind, Res.to, LIM, LS, B1, B2]
  have T4 : fSet 5 (fMo (fB gCat (fVar 5) (fLst (fCons (fFn 2 (run (k+1) 43) (fCons (fVar 0) (fCons (fVar 1) fNil))) (fCons (fFn 2 (run (k+1) 43) (fCons (fFn 1 (run (k+1) 16) (fCons (fVar 0) fNil)) (fCons (fVar 3) fNil))) (fCons (fFn 2 (run (k+1) 42) (fCons (fVar 0) (fCons (fVar 1) fNil))) fNil)))))) [x0, x1, x2, x3, x4, .own [B, B, B], .un, .un, .un] (μ ++ [RW]) = .nxt [x0, x1, x2, x3, x4, .own got0, .un, .un, .un] (μ ++ [RW]) := by
    simp [x0, x1, x3, got0, fSet, fMo, fB, gCat, sqM, fLst, fCons, fFn, fVar, fNil, Res.bind, Res.to, LIM, LS, R1, R2, W1]
  have N := isOp (bl ss f) (bk.2.1 fo)
  have T5 : fSet 6 (fMo (fB gCat (fB gRep (fLst (fCons (fVar 4) fNil)) (fC (.int 3))) (fLst (fCons (fCall gTuple (fConsr (fVar 2) fNilr)) (fCons (fCall gTuple (fConsr (fVar 2) fNilr)) (fCons (fB gEq (fVar 4) (fTup fNil)) fNil)))))) [x0, x1, x2, x3, x4, .own got0, .un, .un, .un] (μ ++ [RW]) = .nxt [x0, x1, x2, x3, x4, .own got0, .own got0, .un, .un] (μ ++ [RW]) := by
    simp [x2, x4, got0, B, fSet, fMo, fB, gCat, gRep, sqM, sq, SqD.items, fLst, fCons, fCall, fConsr, fNilr, gTuple, fVar, fC, fTup, fNil, Res.bind, Res.to, LIM, N, List.replicate]
  have T6 : fFor (fAny (fFn 1 (run (k+1) 18) (fCons (fVar 1) fNil))) (.nm 7) (lookB (k+1)) [x0, x1, x2, x3, x4, .own got0, .own got0, .un, .un] (μ ++ [RW]) = .nxt [x0, x1, x2, x3, x4, .own (got0 ++ looks ss f (spots f)), .own (got0 ++ looks ss f (spots f)), a7, a8] (μ ++ [RW]) := by
    refine Gn.fFor_nxt ?_ LL
    simp [x1, fAny, fFn, fCons, fVar, fNil, Res.bind, sp]
  have lln : (looks ss f (spots f)).length = f.sz := by rw [List.length_map, sl]
  generalize hG : got0 ++ looks ss f (spots f) = G at T6
  have Gl : G.length ≤ 900 := by rw [← hG, List.length_append, lln]; simp only [got0, List.length_cons, List.length_nil]; omega
  have Gn' : ∀ d ∈ G ++ [f.d true], Nw d := fun d hd => by
    have nR := nw_rows ss f (by omega) (by omega)
    rcases List.mem_append.mp hd with hd | hd
    · rw [← hG] at hd
      rcases List.mem_append.mp hd with hd | hd
      · simp only [got0, List.mem_cons, List.not_mem_nil, or_false] at hd
        rcases hd with rfl | rfl | rfl | rfl | rfl | rfl <;> first | exact nB | exact nR | exact nw_bl _
      · obtain ⟨l, _, rfl⟩ := List.mem_map.mp hd
        exact nw_oN _
    · rw [List.mem_singleton.mp hd]
      exact nw_d true f ff (by omega)
  have SL := same_lst (k+1) (G ++ [f.d true]) (μ ++ [RW]) Gn' (by rw [List.length_append]; simp; omega) (by omega)
  have T7 : fRet (fMv (fFn 2 (run (k+1) 17) (fCons (fB gCat (fVar 5) (fLst (fCons (fVar 3) fNil))) (fCons (fB gCat (fVar 6) (fLst (fCons (fFn 1 (run (k+1) 16) (fCons (fVar 1) fNil)) fNil))) fNil)))) [x0, x1, x2, x3, x4, .own G, .own G, a7, a8] (μ ++ [RW]) = .ret (.val (.bl true)) (μ ++ [RW]) := by
    have z : G.length + 1 ≤ 16777216 := by omega
    refine Gn.fRetE ?_
    simp [x1, x3, fFn, fCons, fB, gCat, sqM, fVar, fLst, fNil, Res.bind, LIM, z, LF2, SL]
  refine Gn.runOf_ret [x0, x1, .un, .un, .un, .un, .un, .un, .un] rfl ?_
  unfold b56
  refine (fSeq_nxt S0).trans ?_
  have S := (fSeq_nxt (g := _) T1).trans ((fSeq_nxt T2).trans ((fSeq_nxt T3).trans ((fSeq_nxt T4).trans ((fSeq_nxt T5).trans ((fSeq_nxt T6).trans T7)))))
  show (match fSeq _ _ ([x0, x1, x2, x3, .un, .un, .un, .un, .un] : En) (μ ++ [[]]) with
    | .ret d μ' => if noLocE d && noLocM μ' then SRes.ret d μ'.dropLast else .bad
    | .exc e env' μ' => if noLocs ((Exn.fs e).map (fun x : Str × D => x.2)) && noLocM μ' then .exc e (List.replicate env'.length .un) μ'.dropLast else .bad
    | _ => .bad) = _
  have nM' : noLocM (μ ++ [RW]) = true := nM
  rw [S]
  simp [nM', noLocE, noLoc]
end Kx

set_option linter.all false
set_option maxRecDepth 100000
set_option maxHeartbeats 4000000
namespace Kx
open PySem Q
/-! ### k07's law -/
def isT' : Res EV → Bool
  | .ok (.val (.bl true)) [] => true
  | _ => false
theorem isT'_ok {r : Res EV} (h : isT' r = true) : r = .ok (.val (.bl true)) [] := by
  unfold isT' at h
  split at h
  · rfl
  · cases h
theorem hand7_ok : run 59 57 [] [] = .ok (.val (.bl true)) [] := isT'_ok (by decide +kernel)
theorem right7_ok (k : Nat) (hk : 40 ≤ k) (μ : Mu) (hb : Gn.Bx 0 μ) : ∃ μ', run (k+1) 58 [.loc 0] μ = .ok (.val (.bl true)) μ' := by
  obtain ⟨k, rfl⟩ : ∃ j, k = j + 4 := ⟨k - 4, by omega⟩
  have e : run (k+4+1) 58 = runOf 5 (b58 (run (k+4))) := rfl
  obtain ⟨r, μ1, et, hr, hb1⟩ := take1 (k+3) 3 0 μ (by omega) (by omega) (by omega) hb
  obtain ⟨ss, μ2, EP, s1, s2, s3, hb2⟩ := page_ok k (2 + r) 1 μ1 (by omega) (by omega) (by omega) (by omega) hb1
  have e2 : ((2 + r : Nat) : Int) = 2 + (r : Int) := by omega
  rw [e2] at EP
  obtain ⟨sf, sd⟩ := side_fines s1
  obtain ⟨S, ES, okS'⟩ := signs_ok (k+1) (by omega) ss μ2 s1 s3
  obtain ⟨f1, μ3, EN1, a1, a2, a3, hb3⟩ := near1_ok k (by omega) ss s1 s2 (by omega) 101 μ2 (by omega) hb2
  obtain ⟨f2, μ4, EN2, b1, b2, b3, hb4⟩ := near1_ok k (by omega) ss s1 s2 (by omega) 116 μ3 (by omega) hb3
  have p8 : 8 ^ (3 + 1) = 4096 := by decide
  obtain ⟨f3, μ5, EG, c1, c2, hb5⟩ := great_ok S okS' 3 (k+4) 12 131 μ4 (by omega) (by omega) (by omega) (by rw [p8]; omega) hb4
  have EG : run (k+4) 22 [.loc 0, .lst (S.map sgD), .int 12, .int 4] μ4 = .ok (.val (f3.d false)) μ5 := EG
  have c3 : f3.sz ≤ 364 := by
    have h := fine_sz3 f3 c1
    have m : 3 ^ (f3.dp + 1) ≤ 3 ^ 6 := Nat.pow_le_pow_right (by omega) (by omega)
    have : 3 ^ 6 = 729 := by decide
    omega
  have nl := bx_noLoc hb5
  have C1 := case7_ok (k+3) (by omega) ss f1 sf (by omega) (by omega) a1 (by omega) (by omega) μ5 nl
  have C2 := case7_ok (k+3) (by omega) ss f2 sf (by omega) (by omega) b1 (by omega) (by omega) μ5 nl
  have C3 := case7_ok (k+3) (by omega) ss f3 sf (by omega) (by omega) c1 (by omega) (by omega) μ5 nl
  let x1 : EV := .val (.tup (Fm.ds false ss))
  let x2 : EV := .val (.lst (S.map sgD))
  let x3 : EV := .val (.lst [f1.d false, f2.d false, f3.d false])
  have F1 : fSet 1 (fMv (fFn 2 (run (k+4) 50) (fCons (fVar 0) (fCons (fB gAdd (fC (.int 2)) (fFn 2 (run (k+4) 12) (fCons (fVar 0) (fCons (fC (.int 3)) fNil)))) fNil)))) [.val (.loc 0), .un, .un, .un, .un] μ = .nxt [.val (.loc 0), x1, .un, .un, .un] μ2 := by
    simp [x1, fSet, fMv, fFn, fCons, fVar, fC, fNil, fB, gAdd, Res.bind, Res.to, et, EP]
  have F2 : fSet 2 (fMv (fFnN 1 (run (k+4) 52) (fCons (fVar 1) fNil))) [.val (.loc 0), x1, .un, .un, .un] μ2 = .nxt [.val (.loc 0), x1, x2, .un, .un] μ2 := by
    simp [x1, x2, fSet, fMv, fFnN, fCons, fVar, fNil, Res.bind, Res.to, ES]
  have F3 : fSet 3 (fMv (fLst (fCons (fFn 3 (run (k+4) 53) (fCons (fVar 0) (fCons (fVar 1) (fCons (fC (.int 1)) fNil)))) (fCons (fFn 3 (run (k+4) 53) (fCons (fVar 0) (fCons (fVar 1) (fCons (fC (.int 1)) fNil)))) (fCons (fFn 4 (run (k+4) 22) (fCons (fVar 0) (fCons (fVar 2) (fCons (fC (.int 12)) (fCons (fC (.int 4)) fNil))))) fNil))))) [.val (.loc 0), x1, x2, .un, .un] μ2 = .nxt [.val (.loc 0), x1, x2, x3, .un] μ5 := by
    simp [x1, x2, x3, fSet, fMv, fLst, fFn, fCons, fVar, fC, fNil, Res.bind, Res.to, LIM, EN1, EN2, EG]
  have L : lcLoop (.nm 4) fYes (fFn 2 (run (k+4) 56) (fCons (fVar 1) (fCons (fVar 4) fNil))) [.val (.loc 0), x1, x2, x3, .un] [f1.d false, f2.d false, f3.d false] μ5 [] = .ok [.bl true, .bl true, .bl true] μ5 := by
    rw [Gn.lc_yes (env' := [.val (.loc 0), x1, x2, x3, .val (f1.d false)]) (x := .bl true) (μ1 := μ5) rfl (by simp [x1, fFn, fCons, fVar, fNil, Res.bind, C1])]
    rw [Gn.lc_yes (env' := [.val (.loc 0), x1, x2, x3, .val (f2.d false)]) (x := .bl true) (μ1 := μ5) rfl (by simp [x1, fFn, fCons, fVar, fNil, Res.bind, C2])]
    rw [Gn.lc_yes (env' := [.val (.loc 0), x1, x2, x3, .val (f3.d false)]) (x := .bl true) (μ1 := μ5) rfl (by simp [x1, fFn, fCons, fVar, fNil, Res.bind, C3])]
    rfl
  have C := fLc_eq (fi := fAny (fVar 3)) (t := .nm 4) (vs := [4]) (env := [.val (.loc 0), x1, x2, x3, .un]) (μ := μ5) (μ1 := μ5) (ds := [f1.d false, f2.d false, f3.d false]) rfl (by simp [LIM]) L
  refine ⟨μ5, ?_⟩
  rw [e]
  refine Gn.runOf_ret [.val (.loc 0), .un, .un, .un, .un] rfl ?_
  unfold b58
  rw [fSeq_nxt F1, fSeq_nxt F2, fSeq_nxt F3]
  refine Gn.fRetE ?_
  have w : Q.bls [.bl true, .bl true, .bl true] = some [true, true, true] := rfl
  simp only [fCall, fConsr, fNilr, C, Res.bind]
  simp [gAll, gBls, sq, SqD.items, w]
theorem rows7_loop (cs : List Int) (hl : cs.length ≤ 60) (e0 : EV) : ∀ (m i : Nat) (acc : List D), i + m ≤ cs.length →
    lcLoop (.nm 2) fYes (fBox (run 59 58) (fFnN 2 (run 59 44) (fCons (fVar 1) (fCons (fVar 2) fNil)))) [e0, .val (.lst (cs.map .int)), .un] (rangeD (i : Int) m) [] acc = .ok (acc ++ List.replicate m (.bl true)) []
  | 0, i, acc, _ => by simp [rangeD, lcLoop]
  | m + 1, i, acc, h => by
    obtain ⟨ds, eb, hb⟩ := Gn.box_ok 1943007 cs i (by omega) (by omega) []
    have eb : run 59 44 [.lst (cs.map .int), .int (i : Int)] [] = .ok (.own ds) [] := eb
    obtain ⟨μ', er⟩ := right7_ok 58 (by omega) [ds] hb
    have st : fBox (run 59 58) (fFnN 2 (run 59 44) (fCons (fVar 1) (fCons (fVar 2) fNil))) [e0, .val (.lst (cs.map .int)), .val (.int (i : Int))] [] = .ok (.val (.bl true)) [] := by
      have a : fFnN 2 (run 59 44) (fCons (fVar 1) (fCons (fVar 2) fNil)) [e0, .val (.lst (cs.map .int)), .val (.int (i : Int))] [] = .ok (.val (.lst ds)) [] := by
        simp [fFnN, fCons, fVar, fNil, Res.bind, eb]
      unfold fBox
      rw [a]
      show (match run 59 58 [.loc 0] [ds] with | .ok (.val (.bl b)) _ => Res.ok (RV.val (.bl b)) [] | _ => .bad) = _
      rw [er]
    have en : ((i + 1 : Nat) : Int) = (i : Int) + 1 := by omega
    have ih := rows7_loop cs hl e0 m (i + 1) (acc ++ [.bl true]) (by omega)
    rw [en] at ih
    simp only [rangeD]
    rw [Gn.lc_yes (env' := [e0, .val (.lst (cs.map .int)), .val (.int (i : Int))]) rfl st, ih, List.append_assoc]
    rfl
theorem law7_true (ns : List Int) (hl : ns.length ≤ 63) (hb : ∀ z ∈ ns, PySem.Builtin.Int.intBits z ≤ 1048576) : Kx.run Kx.KK 59 [.frz (ns.map Q.D.int)] [] = .ok (.val (.bl true)) [] := by
  obtain ⟨cs, ec, c1, c2⟩ := Gn.cells_ok 2 (by omega) (by omega) ns hl []
  have ec : run 59 13 [.frz (ns.map .int), .int 2] [] = .ok (.own (cs.map .int)) [] := ec
  have e : run KK 59 = runOf 3 (b59 (run 59)) := rfl
  rw [e]
  refine Gn.runOf_ret [.val (.frz (ns.map .int)), .un, .un] rfl ?_
  have E1 : fIfS (fNot (fTT (fFn0 (run 59 57)))) (fRet (fMv (fC (.bl false)))) fNext [.val (.frz (ns.map .int)), .un, .un] [] = .nxt [.val (.frz (ns.map .int)), .un, .un] [] := by
    simp only [fIfS, fNot, fTT, fFn0, hand7_ok, Res.nx, Res.bind, tru, Res.to, fNext]
    rfl
  have E2 : fSet 1 (fMv (fFnN 2 (run 59 13) (fCons (fVar 0) (fCons (fC (.int 2)) fNil)))) [.val (.frz (ns.map .int)), .un, .un] [] = .nxt [.val (.frz (ns.map .int)), .val (.lst (cs.map .int)), .un] [] := by
    simp [fSet, fMv, fFnN, fCons, fVar, fC, fNil, Res.bind, Res.to, ec]
  have E3 : fCall gLen (fConsr (fVar 1) fNilr) [.val (.frz (ns.map .int)), .val (.lst (cs.map .int)), .un] [] = .ok (.val (.int (cs.length : Int))) [] := by
    have z : cs.length ≤ 16777216 := by omega
    simp [fCall, fConsr, fVar, fNilr, gLen, sq, SqD.items, Res.bind, LIM, z]
  have C := fLc_eq (vs := [2]) (Gn.fRng1_eq E3 (by omega)) (by rw [rangeD_len, LIM]; omega) (rows7_loop cs (by omega) (.val (.frz (ns.map .int))) cs.length 0 [] (by omega))
  unfold b59
  rw [fSeq_nxt E1, fSeq_nxt E2]
  refine Gn.fRetE ?_
  have w : Q.bls (List.replicate cs.length (D.bl true)) = some (List.replicate cs.length true) := by
    have := bls_map (List.replicate cs.length true)
    rw [List.map_replicate] at this
    exact this
  have z : cs.length ≤ 16777216 := by omega
  simp only [List.nil_append] at C
  simp only [fCall, fConsr, fNilr, C, Res.bind]
  simp [gAll, gBls, sq, SqD.items, w, z]
end Kx

set_option Elab.async false
set_option linter.all false
set_option maxRecDepth 100000
set_option maxHeartbeats 4000000
namespace Kx
open PySem PySem.Spec PyProof.Rows L2 Q
def top (i : Nat) : Stmt := PySem.Challenge.pw_notinvain_k07_blots_by_one_pass.main.body.getD i (.Pass ⟨0, 0, 0, 0⟩)
abbrev s1 : Stmt := top 1 -- tupled
abbrev s3 : Stmt := top 3 -- unlike_signs
abbrev s5 : Stmt := top 4 -- do_agree
abbrev s37 : Stmt := top 7 -- first_agreeing
abbrev s38 : Stmt := top 8 -- passed
abbrev s39 : Stmt := top 9 -- rows_of
abbrev s40 : Stmt := top 10 -- struck_by
abbrev s41 : Stmt := top 11 -- blot
abbrev s42 : Stmt := top 12 -- is_struck_whole
abbrev s43 : Stmt := top 13 -- blot_rows
abbrev s44 : Stmt := top 15 -- _law_box
abbrev s12 : Stmt := top 16 -- _law_take
abbrev s13 : Stmt := top 17 -- _law_cells
abbrev s14 : Stmt := top 18 -- _law_of
abbrev s15 : Stmt := top 19 -- _law_pick
abbrev s16 : Stmt := top 20 -- _law_lists
abbrev s17 : Stmt := top 21 -- _law_same
abbrev s18 : Stmt := top 22 -- _law_spots
abbrev s19 : Stmt := top 23 -- _law_at
abbrev s20 : Stmt := top 24 -- _law_put
abbrev s45 : Stmt := top 25 -- _law_agree
abbrev s46 : Stmt := top 26 -- _law_bits
abbrev s47 : Stmt := top 27 -- _law_touched
abbrev s48 : Stmt := top 28 -- _law_blot
abbrev s21 : Stmt := top 29 -- _law_leaf
abbrev s22 : Stmt := top 30 -- _law_great
abbrev s49 : Stmt := top 31 -- _law_side
abbrev s50 : Stmt := top 32 -- _law_page
abbrev s51 : Stmt := top 33 -- _law_three
abbrev s52 : Stmt := top 34 -- _law_signs_of
abbrev s53 : Stmt := top 35 -- _law_near
abbrev s54 : Stmt := top 36 -- _law_first
abbrev s55 : Stmt := top 37 -- _law_below
abbrev s56 : Stmt := top 38 -- _law_case_right
abbrev s57 : Stmt := top 39 -- _law_by_hand_right
abbrev s58 : Stmt := top 40 -- _law_right
abbrev s59 : Stmt := top 41 -- law
structure Tp (P : Program) (w : World) (K : PySem.W.Frag) (mg : Str → Option Value) (base : Heap) (C : Nat → Addr) (k : Nat) (r : Nat → RunF) : Prop where
  z_abs : mg "abs" = none
  z_all : mg "all" = none
  z_bool : mg "bool" = none
  z_enumerate : mg "enumerate" = none
  z_int : mg "int" = none
  z_isinstance : mg "isinstance" = none
  z_len : mg "len" = none
  z_list : mg "list" = none
  z_max : mg "max" = none
  z_min : mg "min" = none
  z_range : mg "range" = none
  z_set : mg "set" = none
  z_sorted : mg "sorted" = none
  z_str : mg "str" = none
  z_tuple : mg "tuple" = none
  z_zip : mg "zip" = none
  g_OPEN : Gc K mg "OPEN" g_OPEN
  c1 : Cal P w K mg base C k "tupled" s1 ["value"] 1 (r 1)
  c3 : Cal P w K mg base C k "unlike_signs" s3 ["form", "other"] 2 (r 3)
  c5 : Cal P w K mg base C k "do_agree" s5 ["form", "other"] 2 (r 5)
  c37 : Cal P w K mg base C k "first_agreeing" s37 ["sides", "form"] 2 (r 37)
  c38 : Cal P w K mg base C k "passed" s38 ["sides", "form", "place", "rows"] 4 (r 38)
  c39 : Cal P w K mg base C k "rows_of" s39 ["sides", "form"] 2 (r 39)
  c40 : Cal P w K mg base C k "struck_by" s40 ["sides", "form"] 2 (r 40)
  c41 : Cal P w K mg base C k "blot" s41 ["sides", "form"] 2 (r 41)
  c42 : Cal P w K mg base C k "is_struck_whole" s42 ["sides", "form"] 2 (r 42)
  c43 : Cal P w K mg base C k "blot_rows" s43 ["sides", "form"] 2 (r 43)
  c44 : Cal P w K mg base C k "_law_box" s44 ["_law_script", "_law_k"] 2 (r 44)
  c12 : Cal P w K mg base C k "_law_take" s12 ["_law_tin", "_law_below_so"] 2 (r 12)
  c13 : Cal P w K mg base C k "_law_cells" s13 ["_law_script", "_law_most_so"] 2 (r 13)
  c14 : Cal P w K mg base C k "_law_of" s14 ["_law_tin", "_law_goods_so"] 2 (r 14)
  c15 : Cal P w K mg base C k "_law_pick" s15 ["_law_tin", "_law_goods_so", "_law_count_so"] 3 (r 15)
  c16 : Cal P w K mg base C k "_law_lists" s16 ["_law_matter"] 1 (r 16)
  c17 : Cal P w K mg base C k "_law_same" s17 ["_law_got", "_law_due"] 2 (r 17)
  c18 : Cal P w K mg base C k "_law_spots" s18 ["_law_leaf_here"] 1 (r 18)
  c19 : Cal P w K mg base C k "_law_at" s19 ["_law_leaf_here", "_law_spot_so"] 2 (r 19)
  c20 : Cal P w K mg base C k "_law_put" s20 ["_law_leaf_here", "_law_spot_so", "_law_fresh_so"] 3 (r 20)
  c45 : Cal P w K mg base C k "_law_agree" s45 ["_law_one_so", "_law_two_so"] 2 (r 45)
  c46 : Cal P w K mg base C k "_law_bits" s46 ["_law_page_so"] 1 (r 46)
  c47 : Cal P w K mg base C k "_law_touched" s47 ["_law_page_so", "_law_leaf_here"] 2 (r 47)
  c48 : Cal P w K mg base C k "_law_blot" s48 ["_law_page_so", "_law_leaf_here"] 2 (r 48)
  c21 : Cal P w K mg base C k "_law_leaf" s21 ["_law_tin", "_law_signs_so", "_law_fuel_so", "_law_deep_so"] 4 (r 21)
  c22 : Cal P w K mg base C k "_law_great" s22 ["_law_tin", "_law_signs_so", "_law_fuel_so", "_law_deep_so"] 4 (r 22)
  c49 : Cal P w K mg base C k "_law_side" s49 ["_law_tin"] 1 (r 49)
  c50 : Cal P w K mg base C k "_law_page" s50 ["_law_tin", "_law_many_so"] 2 (r 50)
  c51 : Cal P w K mg base C k "_law_three" s51 [] 0 (r 51)
  c52 : Cal P w K mg base C k "_law_signs_of" s52 ["_law_page_so"] 1 (r 52)
  c53 : Cal P w K mg base C k "_law_near" s53 ["_law_tin", "_law_page_so", "_law_deep_so"] 3 (r 53)
  c54 : Cal P w K mg base C k "_law_first" s54 ["_law_page_so", "_law_leaf_here"] 2 (r 54)
  c55 : Cal P w K mg base C k "_law_below" s55 ["_law_page_so", "_law_leaf_here", "_law_spot_so", "_law_told_so"] 4 (r 55)
  c56 : Cal P w K mg base C k "_law_case_right" s56 ["_law_page_so", "_law_leaf_here"] 2 (r 56)
  c57 : Cal P w K mg base C k "_law_by_hand_right" s57 [] 0 (r 57)
  c58 : Cal P w K mg base C k "_law_right" s58 ["_law_tin"] 1 (r 58)
  c59 : Cal P w K mg base C k "law" s59 ["_law_script"] 1 (r 59)
  k41_1_0_0 : CalK P w K mg base C k "blot" ["form", "sides"] 2 0 2 [1, 0] (r 41)
  k40_1_0_0 : CalK P w K mg base C k "struck_by" ["form", "sides"] 2 0 2 [1, 0] (r 40)
  k41_0_1_0 : CalK P w K mg base C k "blot" ["sides", "form"] 2 0 2 [0, 1] (r 41)
  k43_1_0_0 : CalK P w K mg base C k "blot_rows" ["form", "sides"] 2 0 2 [1, 0] (r 43)
  k42_1_0_0 : CalK P w K mg base C k "is_struck_whole" ["form", "sides"] 2 0 2 [1, 0] (r 42)
section
variable {P : Program} {w : World} {K : PySem.W.Frag} {mg : Str → Option Value} {base : Heap} {C : Nat → Addr} {k : Nat} {r : Nat → RunF}
theorem S1 : FnScope ["value", "own"] ["value"] (defScope s1) := ⟨rfl, rfl, rfl, by decide +kernel, rfl, by decide +kernel, by decide +kernel⟩
theorem h1 (T : Tp P w K mg base C k r) (f : Addr) (cdv : Value) (A : Around) (outer : List Env) (s : Shared) (H : Hp) (E : XK) (L : List Addr) (H0 G0 : Hp) (hr : Room k (A.deeper (envOfC "tupled" (defScope s1) s.heap.objs.size f cdv))) :
    DSs (cxOf (L2.CX P w) P w K mg base ["value", "own"] "tupled" (defScope s1) f cdv A outer s H E) ⟨K, L, H0, G0, C⟩ (fun cls d _ H => E cls d H) (defBody s1) (b1 r) := by
  have hN : (cxOf (L2.CX P w) P w K mg base ["value", "own"] "tupled" (defScope s1) f cdv A outer s H E).N.Nodup := S1.nd
  exact (dss_one (ds_ret (dm_val ((de_if ((dt_truth ((de_isiT T.z_isinstance (pa_tyc T.z_list (by decide +kernel) (pa_tyc T.z_tuple (by decide +kernel) pa_ty0)) ((de_v 0)))))) ((de_tuple T.z_tuple (DN.de ((dn_lc rfl hN (di_c (di_any ((de_v 0)))) (blkOk_by (own := [("own", 1)]) (by rfl)) (fun _ _ _ _ _ => (dg_name 1 hN)) (fun _ _ _ _ _ => dts_nil) (fun _ _ _ _ _ => (de_cal T.c1 hr tk0 (da_cons ((de_v 1)) da_nil)))))))) ((de_v 0)))))))
theorem S3 : FnScope ["form", "other"] ["form", "other"] (defScope s3) := ⟨rfl, rfl, rfl, by decide +kernel, rfl, by decide +kernel, by decide +kernel⟩
theorem h3 (T : Tp P w K mg base C k r) (f : Addr) (cdv : Value) (A : Around) (outer : List Env) (s : Shared) (H : Hp) (E : XK) (L : List Addr) (H0 G0 : Hp) (hr : Room k (A.deeper (envOfC "unlike_signs" (defScope s3) s.heap.objs.size f cdv))) :
    DSs (cxOf (L2.CX P w) P w K mg base ["form", "other"] "unlike_signs" (defScope s3) f cdv A outer s H E) ⟨K, L, H0, G0, C⟩ (fun cls d _ H => E cls d H) (defBody s3) (b3 r) := by
  have hN : (cxOf (L2.CX P w) P w K mg base ["form", "other"] "unlike_signs" (defScope s3) f cdv A outer s H E).N.Nodup := S3.nd
  have hu : (A.deeper (envOfC "unlike_signs" (defScope s3) s.heap.objs.size f cdv)).units + 64 < cLine := hr.units
  exact (dss_one (ds_ret (dm_val ((de_or ((de_ne hu ((de_len T.z_len ((de_v 0)))) ((de_len T.z_len ((de_v 1)))))) (de_one ((de_ne hu ((de_at ((de_v 0)) (de_int))) ((de_at ((de_v 1)) (de_int)))))))))))
theorem S5 : FnScope ["form", "other", "part", "own"] ["form", "other"] (defScope s5) := ⟨rfl, rfl, rfl, by decide +kernel, rfl, by decide +kernel, by decide +kernel⟩
theorem h5 (T : Tp P w K mg base C k r) (f : Addr) (cdv : Value) (A : Around) (outer : List Env) (s : Shared) (H : Hp) (E : XK) (L : List Addr) (H0 G0 : Hp) (hr : Room k (A.deeper (envOfC "do_agree" (defScope s5) s.heap.objs.size f cdv))) :
    DSs (cxOf (L2.CX P w) P w K mg base ["form", "other", "part", "own"] "do_agree" (defScope s5) f cdv A outer s H E) ⟨K, L, H0, G0, C⟩ (fun cls d _ H => E cls d H) (defBody s5) (b5 r) := by
  have hN : (cxOf (L2.CX P w) P w K mg base ["form", "other", "part", "own"] "do_agree" (defScope s5) f cdv A outer s H E).N.Nodup := S5.nd
  have hu : (A.deeper (envOfC "do_agree" (defScope s5) s.heap.objs.size f cdv)).units + 64 < cLine := hr.units
  have tX : Takes (cxOf (L2.CX P w) P w K mg base ["form", "other", "part", "own"] "do_agree" (defScope s5) f cdv A outer s H E) (fun cls d _ H => E cls d H) := takes_of rfl rfl rfl rfl
  exact (dss_cons (ds_if ((dt_w (dw_or ((dt_eq hu ((de_len T.z_len ((de_v 0)))) (de_int))) (dw_or1 ((dt_eq hu ((de_len T.z_len ((de_v 1)))) (de_int))))))) (dss_one (ds_ret (dm_val (de_bl)))) dss_nil)
    (dss_cons (ds_if ((dt_truth ((de_cal T.c3 hr tX (da_cons ((de_v 0)) (da_cons ((de_v 1)) da_nil)))))) (dss_one (ds_ret (dm_val (de_bl)))) dss_nil)
    (dss_one (ds_ret (dm_val ((de_all rfl T.z_all (DN.de ((dn_lc rfl hN (di_c (di_zp T.z_zip ((de_slice ((de_v 0)) (do_some (de_int)) do_none)) ((de_slice ((de_v 1)) (do_some (de_int)) do_none)))) (blkOk_by (own := [("part", 2), ("own", 3)]) (by rfl)) (fun _ _ _ _ _ => (dg_tup rfl (dgs_cons (dg_name 2 hN) (dgs_cons (dg_name 3 hN) dgs_nil)))) (fun _ _ _ _ _ => dts_nil) (fun _ _ _ _ _ => (de_cal T.c5 hr tk0 (da_cons ((de_v 2)) (da_cons ((de_v 3)) da_nil))))))))))))))
theorem S37 : FnScope ["sides", "form", "number", "side"] ["sides", "form"] (defScope s37) := ⟨rfl, rfl, rfl, by decide +kernel, rfl, by decide +kernel, by decide +kernel⟩
theorem h37 (T : Tp P w K mg base C k r) (f : Addr) (cdv : Value) (A : Around) (outer : List Env) (s : Shared) (H : Hp) (E : XK) (L : List Addr) (H0 G0 : Hp) (hr : Room k (A.deeper (envOfC "first_agreeing" (defScope s37) s.heap.objs.size f cdv))) :
    DSs (cxOf (L2.CX P w) P w K mg base ["sides", "form", "number", "side"] "first_agreeing" (defScope s37) f cdv A outer s H E) ⟨K, L, H0, G0, C⟩ (fun cls d _ H => E cls d H) (defBody s37) (b37 r) := by
  have hN : (cxOf (L2.CX P w) P w K mg base ["sides", "form", "number", "side"] "first_agreeing" (defScope s37) f cdv A outer s H E).N.Nodup := S37.nd
  have hu : (A.deeper (envOfC "first_agreeing" (defScope s37) s.heap.objs.size f cdv)).units + 64 < cLine := hr.units
  have tX : Takes (cxOf (L2.CX P w) P w K mg base ["sides", "form", "number", "side"] "first_agreeing" (defScope s37) f cdv A outer s H E) (fun cls d _ H => E cls d H) := takes_of rfl rfl rfl rfl
  have hp := passes_of (X := cxOf (L2.CX P w) P w K mg base ["sides", "form", "number", "side"] "first_agreeing" (defScope s37) f cdv A outer s H E) rfl
  exact (dss_cons (ds_if ((dt_eq hu ((de_v 1)) ((de_gc T.g_OPEN)))) (dss_one (ds_ret (dm_val (de_non)))) dss_nil)
    (dss_cons (ds_for hp rfl (di_en T.z_enumerate ((de_v 0))) (dg_tup rfl (dgs_cons (dg_name 2 hN) (dgs_cons (dg_name 3 hN) dgs_nil))) (dss_one (ds_if ((dt_truth ((de_cal T.c5 hr tX (da_cons ((de_v 3)) (da_cons ((de_v 1)) da_nil)))))) (dss_one (ds_ret (dm_val ((de_v 2))))) dss_nil)))
    (dss_one (ds_ret (dm_val (de_non))))))
theorem S38 : FnScope ["sides", "form", "place", "rows", "parts", "k", "part", "left", "number"] ["sides", "form", "place", "rows"] (defScope s38) := ⟨rfl, rfl, rfl, by decide +kernel, rfl, by decide +kernel, by decide +kernel⟩
theorem h38 (T : Tp P w K mg base C k r) (f : Addr) (cdv : Value) (A : Around) (outer : List Env) (s : Shared) (H : Hp) (E : XK) (L : List Addr) (H0 G0 : Hp) (hr : Room k (A.deeper (envOfC "passed" (defScope s38) s.heap.objs.size f cdv))) :
    DSs (cxOf (L2.CX P w) P w K mg base ["sides", "form", "place", "rows", "parts", "k", "part", "left", "number"] "passed" (defScope s38) f cdv A outer s H E) ⟨K, L, H0, G0, C⟩ (fun cls d _ H => E cls d H) (defBody s38) (b38 r) := by
  have hN : (cxOf (L2.CX P w) P w K mg base ["sides", "form", "place", "rows", "parts", "k", "part", "left", "number"] "passed" (defScope s38) f cdv A outer s H E).N.Nodup := S38.nd
  have hu : (A.deeper (envOfC "passed" (defScope s38) s.heap.objs.size f cdv)).units + 64 < cLine := hr.units
  have tX : Takes (cxOf (L2.CX P w) P w K mg base ["sides", "form", "place", "rows", "parts", "k", "part", "left", "number"] "passed" (defScope s38) f cdv A outer s H E) (fun cls d _ H => E cls d H) := takes_of rfl rfl rfl rfl
  exact (dss_cons (ds_if ((dt_eq hu ((de_v 1)) ((de_gc T.g_OPEN)))) (dss_one (ds_ret (dm_val ((de_gc T.g_OPEN))))) dss_nil)
    (dss_cons (ds_setLc (i := 4) true rfl hN (by rfl) (di_c (di_en T.z_enumerate ((de_slice ((de_v 1)) (do_some (de_int)) do_none)))) (blkOk_by (own := [("k", 5), ("part", 6)]) (by rfl)) (fun _ _ _ _ _ => (dg_tup rfl (dgs_cons (dg_name 5 hN) (dgs_cons (dg_name 6 hN) dgs_nil)))) (fun _ _ _ _ _ => dts_nil) (fun _ _ _ _ _ => (de_cal T.c38 hr tk0 (da_cons ((de_v 0)) (da_cons ((de_v 6)) (da_cons ((de_add ((de_v 2)) ((de_tup (da_cons ((de_v 5)) da_nil))))) (da_cons ((de_v 3)) da_nil)))))))
    (dss_cons (ds_set (i := 7) hN (dm_val ((de_add ((de_slice ((de_v 1)) do_none (do_some (de_int)))) ((de_tuple T.z_tuple ((de_v 4))))))))
    (dss_cons (ds_set (i := 8) hN (dm_val ((de_cal T.c37 hr tX (da_cons ((de_v 0)) (da_cons ((de_v 7)) da_nil))))))
    (dss_cons (ds_if ((dt_isN ((de_v 8)) (de_non))) (dss_one (ds_ret (dm_val ((de_v 7))))) dss_nil)
    (dss_cons (ds_append 3 ((de_tup (da_cons ((de_v 2)) (da_cons ((de_v 8)) da_nil)))))
    (dss_one (ds_ret (dm_val ((de_gc T.g_OPEN)))))))))))
theorem S39 : FnScope ["sides", "form", "rows"] ["sides", "form"] (defScope s39) := ⟨rfl, rfl, rfl, by decide +kernel, rfl, by decide +kernel, by decide +kernel⟩
theorem h39 (T : Tp P w K mg base C k r) (f : Addr) (cdv : Value) (A : Around) (outer : List Env) (s : Shared) (H : Hp) (E : XK) (L : List Addr) (H0 G0 : Hp) (hr : Room k (A.deeper (envOfC "rows_of" (defScope s39) s.heap.objs.size f cdv))) :
    DSs (cxOf (L2.CX P w) P w K mg base ["sides", "form", "rows"] "rows_of" (defScope s39) f cdv A outer s H E) ⟨K, L, H0, G0, C⟩ (fun cls d _ H => E cls d H) (defBody s39) (b39 r) := by
  have hN : (cxOf (L2.CX P w) P w K mg base ["sides", "form", "rows"] "rows_of" (defScope s39) f cdv A outer s H E).N.Nodup := S39.nd
  have tX : Takes (cxOf (L2.CX P w) P w K mg base ["sides", "form", "rows"] "rows_of" (defScope s39) f cdv A outer s H E) (fun cls d _ H => E cls d H) := takes_of rfl rfl rfl rfl
  exact (dss_cons (ds_set (i := 2) hN (dm_own ((dn_lst da_nil))))
    (dss_shr 2 (fun _ => (dss_cons (ds_expr ((de_cal T.c38 hr tX (da_cons ((de_v 0)) (da_cons ((de_v 1)) (da_cons ((de_tup da_nil)) (da_cons ((de_v 2)) da_nil)))))))
    (dss_one (ds_ret (dm_val ((de_tuple T.z_tuple ((de_v 2)))))))))))
theorem S40 : FnScope ["sides", "form"] ["sides", "form"] (defScope s40) := ⟨rfl, rfl, rfl, by decide +kernel, rfl, by decide +kernel, by decide +kernel⟩
theorem h40 (T : Tp P w K mg base C k r) (f : Addr) (cdv : Value) (A : Around) (outer : List Env) (s : Shared) (H : Hp) (E : XK) (L : List Addr) (H0 G0 : Hp) (hr : Room k (A.deeper (envOfC "struck_by" (defScope s40) s.heap.objs.size f cdv))) :
    DSs (cxOf (L2.CX P w) P w K mg base ["sides", "form"] "struck_by" (defScope s40) f cdv A outer s H E) ⟨K, L, H0, G0, C⟩ (fun cls d _ H => E cls d H) (defBody s40) (b40 r) := by
  have hN : (cxOf (L2.CX P w) P w K mg base ["sides", "form"] "struck_by" (defScope s40) f cdv A outer s H E).N.Nodup := S40.nd
  have tX : Takes (cxOf (L2.CX P w) P w K mg base ["sides", "form"] "struck_by" (defScope s40) f cdv A outer s H E) (fun cls d _ H => E cls d H) := takes_of rfl rfl rfl rfl
  exact (dss_one (ds_ret (dm_val ((de_cal T.c37 hr tX (da_cons ((de_cal T.c1 hr tX (da_cons ((de_v 0)) da_nil))) (da_cons ((de_cal T.c1 hr tX (da_cons ((de_v 1)) da_nil))) da_nil)))))))
theorem S41 : FnScope ["sides", "form"] ["sides", "form"] (defScope s41) := ⟨rfl, rfl, rfl, by decide +kernel, rfl, by decide +kernel, by decide +kernel⟩
theorem h41 (T : Tp P w K mg base C k r) (f : Addr) (cdv : Value) (A : Around) (outer : List Env) (s : Shared) (H : Hp) (E : XK) (L : List Addr) (H0 G0 : Hp) (hr : Room k (A.deeper (envOfC "blot" (defScope s41) s.heap.objs.size f cdv))) :
    DSs (cxOf (L2.CX P w) P w K mg base ["sides", "form"] "blot" (defScope s41) f cdv A outer s H E) ⟨K, L, H0, G0, C⟩ (fun cls d _ H => E cls d H) (defBody s41) (b41 r) := by
  have hN : (cxOf (L2.CX P w) P w K mg base ["sides", "form"] "blot" (defScope s41) f cdv A outer s H E).N.Nodup := S41.nd
  have tX : Takes (cxOf (L2.CX P w) P w K mg base ["sides", "form"] "blot" (defScope s41) f cdv A outer s H E) (fun cls d _ H => E cls d H) := takes_of rfl rfl rfl rfl
  exact (dss_one (ds_ret (dm_val ((de_calL T.c38 hr tX (dl_cons ((de_cal T.c1 hr tX (da_cons ((de_v 0)) da_nil))) (dl_cons ((de_cal T.c1 hr tX (da_cons ((de_v 1)) da_nil))) (dl_cons ((de_tup da_nil)) (dl_last ((dn_lst da_nil)))))))))))
theorem S42 : FnScope ["sides", "form"] ["sides", "form"] (defScope s42) := ⟨rfl, rfl, rfl, by decide +kernel, rfl, by decide +kernel, by decide +kernel⟩
theorem h42 (T : Tp P w K mg base C k r) (f : Addr) (cdv : Value) (A : Around) (outer : List Env) (s : Shared) (H : Hp) (E : XK) (L : List Addr) (H0 G0 : Hp) (hr : Room k (A.deeper (envOfC "is_struck_whole" (defScope s42) s.heap.objs.size f cdv))) :
    DSs (cxOf (L2.CX P w) P w K mg base ["sides", "form"] "is_struck_whole" (defScope s42) f cdv A outer s H E) ⟨K, L, H0, G0, C⟩ (fun cls d _ H => E cls d H) (defBody s42) (b42 r) := by
  have hN : (cxOf (L2.CX P w) P w K mg base ["sides", "form"] "is_struck_whole" (defScope s42) f cdv A outer s H E).N.Nodup := S42.nd
  have hu : (A.deeper (envOfC "is_struck_whole" (defScope s42) s.heap.objs.size f cdv)).units + 64 < cLine := hr.units
  have tX : Takes (cxOf (L2.CX P w) P w K mg base ["sides", "form"] "is_struck_whole" (defScope s42) f cdv A outer s H E) (fun cls d _ H => E cls d H) := takes_of rfl rfl rfl rfl
  exact (dss_one (ds_ret (dm_val ((de_eq hu ((de_cal T.c41 hr tX (da_cons ((de_v 0)) (da_cons ((de_v 1)) da_nil)))) ((de_gc T.g_OPEN)))))))
theorem S43 : FnScope ["sides", "form"] ["sides", "form"] (defScope s43) := ⟨rfl, rfl, rfl, by decide +kernel, rfl, by decide +kernel, by decide +kernel⟩
theorem h43 (T : Tp P w K mg base C k r) (f : Addr) (cdv : Value) (A : Around) (outer : List Env) (s : Shared) (H : Hp) (E : XK) (L : List Addr) (H0 G0 : Hp) (hr : Room k (A.deeper (envOfC "blot_rows" (defScope s43) s.heap.objs.size f cdv))) :
    DSs (cxOf (L2.CX P w) P w K mg base ["sides", "form"] "blot_rows" (defScope s43) f cdv A outer s H E) ⟨K, L, H0, G0, C⟩ (fun cls d _ H => E cls d H) (defBody s43) (b43 r) := by
  have hN : (cxOf (L2.CX P w) P w K mg base ["sides", "form"] "blot_rows" (defScope s43) f cdv A outer s H E).N.Nodup := S43.nd
  have tX : Takes (cxOf (L2.CX P w) P w K mg base ["sides", "form"] "blot_rows" (defScope s43) f cdv A outer s H E) (fun cls d _ H => E cls d H) := takes_of rfl rfl rfl rfl
  exact (dss_one (ds_ret (dm_val ((de_cal T.c39 hr tX (da_cons ((de_cal T.c1 hr tX (da_cons ((de_v 0)) da_nil))) (da_cons ((de_cal T.c1 hr tX (da_cons ((de_v 1)) da_nil))) da_nil)))))))
theorem S44 : FnScope ["_law_script", "_law_k", "_law_cell_so"] ["_law_script", "_law_k"] (defScope s44) := ⟨rfl, rfl, rfl, by decide +kernel, rfl, by decide +kernel, by decide +kernel⟩
theorem h44 (T : Tp P w K mg base C k r) (f : Addr) (cdv : Value) (A : Around) (outer : List Env) (s : Shared) (H : Hp) (E : XK) (L : List Addr) (H0 G0 : Hp) (hr : Room k (A.deeper (envOfC "_law_box" (defScope s44) s.heap.objs.size f cdv))) :
    DSs (cxOf (L2.CX P w) P w K mg base ["_law_script", "_law_k", "_law_cell_so"] "_law_box" (defScope s44) f cdv A outer s H E) ⟨K, L, H0, G0, C⟩ (fun cls d _ H => E cls d H) (defBody s44) (b44 r) := by
  have hN : (cxOf (L2.CX P w) P w K mg base ["_law_script", "_law_k", "_law_cell_so"] "_law_box" (defScope s44) f cdv A outer s H E).N.Nodup := S44.nd
  exact (dss_cons (ds_set (i := 2) hN (dm_val ((de_if ((dt_lt ((de_v 1)) ((de_len T.z_len ((de_v 0)))))) ((de_at ((de_v 0)) ((de_v 1)))) (de_int)))))
    (dss_one (ds_ret (dm_own ((dn_lst (da_cons ((de_mul ((de_abs T.z_abs ((de_v 2)))) ((de_int1 T.z_int ((de_ge ((de_abs T.z_abs ((de_v 2)))) ((de_pow (de_int) (de_int))))))))) (da_cons ((de_add ((de_add ((de_mod ((de_int1 T.z_int ((de_v 2)))) (de_int))) ((de_mul (de_int) ((de_v 1)))))) (de_int))) (da_cons (de_int) da_nil)))))))))
theorem S12 : FnScope ["_law_tin", "_law_below_so", "_law_drawn", "_law_once_so", "_law_wide_so", "_law_twice_so"] ["_law_tin", "_law_below_so"] (defScope s12) := ⟨rfl, rfl, rfl, by decide +kernel, rfl, by decide +kernel, by decide +kernel⟩
theorem h12 (T : Tp P w K mg base C k r) (f : Addr) (cdv : Value) (A : Around) (outer : List Env) (s : Shared) (H : Hp) (E : XK) (L : List Addr) (H0 G0 : Hp) (hr : Room k (A.deeper (envOfC "_law_take" (defScope s12) s.heap.objs.size f cdv))) :
    DSs (cxOf (L2.CX P w) P w K mg base ["_law_tin", "_law_below_so", "_law_drawn", "_law_once_so", "_law_wide_so", "_law_twice_so"] "_law_take" (defScope s12) f cdv A outer s H E) ⟨K, L, H0, G0, C⟩ (fun cls d _ H => E cls d H) (defBody s12) (b12 r) := by
  have hN : (cxOf (L2.CX P w) P w K mg base ["_law_tin", "_law_below_so", "_law_drawn", "_law_once_so", "_law_wide_so", "_law_twice_so"] "_law_take" (defScope s12) f cdv A outer s H E).N.Nodup := S12.nd
  exact (dss_cons (ds_if ((dt_gt ((de_at ((de_v 0)) (de_int))) (de_int))) (dss_cons (ds_set (i := 2) hN (dm_val ((de_mod ((de_int1 T.z_int ((de_at ((de_v 0)) (de_int))))) ((de_v 1))))))
    (dss_cons (ds_setIx 0 ((de_div ((de_at ((de_v 0)) (de_int))) ((de_v 1)))) (de_int))
    (dss_one (ds_ret (dm_val ((de_v 2))))))) dss_nil)
    (dss_cons (ds_setIx 0 ((de_add ((de_at ((de_v 0)) (de_int))) (de_int))) (de_int))
    (dss_cons (ds_set (i := 3) hN (dm_val ((de_mod ((de_int1 T.z_int ((de_mul ((de_add ((de_at ((de_v 0)) (de_int))) ((de_mul (de_int) ((de_at ((de_v 0)) (de_int))))))) ((de_add (de_int) ((de_at ((de_v 0)) (de_int))))))))) (de_int)))))
    (dss_cons (ds_set (i := 4) hN (dm_val ((de_add ((de_mod ((de_int1 T.z_int ((de_v 3)))) (de_int))) (de_int)))))
    (dss_cons (ds_set (i := 5) hN (dm_val ((de_mod ((de_int1 T.z_int ((de_mul ((de_add ((de_add ((de_v 3)) ((de_at ((de_v 0)) (de_int))))) ((de_div ((de_at ((de_v 0)) (de_int))) (de_int))))) ((de_v 4)))))) (de_int)))))
    (dss_one (ds_ret (dm_val ((de_mod ((de_int1 T.z_int ((de_div ((de_mod ((de_int1 T.z_int ((de_add ((de_mul ((de_v 5)) (de_int))) ((de_v 3)))))) (de_int))) (de_int))))) ((de_v 1))))))))))))
theorem S13 : FnScope ["_law_script", "_law_most_so", "_law_cells_so", "_law_k", "_law_cell_so", "_law_at_so"] ["_law_script", "_law_most_so"] (defScope s13) := ⟨rfl, rfl, rfl, by decide +kernel, rfl, by decide +kernel, by decide +kernel⟩
theorem h13 (T : Tp P w K mg base C k r) (f : Addr) (cdv : Value) (A : Around) (outer : List Env) (s : Shared) (H : Hp) (E : XK) (L : List Addr) (H0 G0 : Hp) (hr : Room k (A.deeper (envOfC "_law_cells" (defScope s13) s.heap.objs.size f cdv))) :
    DSs (cxOf (L2.CX P w) P w K mg base ["_law_script", "_law_most_so", "_law_cells_so", "_law_k", "_law_cell_so", "_law_at_so"] "_law_cells" (defScope s13) f cdv A outer s H E) ⟨K, L, H0, G0, C⟩ (fun cls d _ H => E cls d H) (defBody s13) (b13 r) := by
  have hN : (cxOf (L2.CX P w) P w K mg base ["_law_script", "_law_most_so", "_law_cells_so", "_law_k", "_law_cell_so", "_law_at_so"] "_law_cells" (defScope s13) f cdv A outer s H E).N.Nodup := S13.nd
  have hp := passes_of (X := cxOf (L2.CX P w) P w K mg base ["_law_script", "_law_most_so", "_law_cells_so", "_law_k", "_law_cell_so", "_law_at_so"] "_law_cells" (defScope s13) f cdv A outer s H E) rfl
  exact (dss_cons (ds_set (i := 2) hN (dm_own ((dn_or ((dn_list T.z_list ((de_slice ((de_v 0)) do_none (do_some ((de_v 1))))))) ((dn_lst (da_cons (de_int) da_nil)))))))
    (dss_cons (ds_for hp rfl (di_en T.z_enumerate ((de_slice ((de_v 0)) (do_some ((de_v 1))) (do_some (de_int))))) (dg_tup rfl (dgs_cons (dg_name 3 hN) (dgs_cons (dg_name 4 hN) dgs_nil))) (dss_cons (ds_set (i := 5) hN (dm_val ((de_mod ((de_int1 T.z_int ((de_v 3)))) ((de_v 1))))))
    (dss_one (ds_setIx 2 ((de_add ((de_at ((de_v 2)) ((de_v 5)))) ((de_mul ((de_v 4)) ((de_add ((de_v 3)) (de_int))))))) ((de_v 5))))))
    (dss_one (ds_retO 2))))
theorem S14 : FnScope ["_law_tin", "_law_goods_so"] ["_law_tin", "_law_goods_so"] (defScope s14) := ⟨rfl, rfl, rfl, by decide +kernel, rfl, by decide +kernel, by decide +kernel⟩
theorem h14 (T : Tp P w K mg base C k r) (f : Addr) (cdv : Value) (A : Around) (outer : List Env) (s : Shared) (H : Hp) (E : XK) (L : List Addr) (H0 G0 : Hp) (hr : Room k (A.deeper (envOfC "_law_of" (defScope s14) s.heap.objs.size f cdv))) :
    DSs (cxOf (L2.CX P w) P w K mg base ["_law_tin", "_law_goods_so"] "_law_of" (defScope s14) f cdv A outer s H E) ⟨K, L, H0, G0, C⟩ (fun cls d _ H => E cls d H) (defBody s14) (b14 r) := by
  have hN : (cxOf (L2.CX P w) P w K mg base ["_law_tin", "_law_goods_so"] "_law_of" (defScope s14) f cdv A outer s H E).N.Nodup := S14.nd
  have tX : Takes (cxOf (L2.CX P w) P w K mg base ["_law_tin", "_law_goods_so"] "_law_of" (defScope s14) f cdv A outer s H E) (fun cls d _ H => E cls d H) := takes_of rfl rfl rfl rfl
  exact (dss_one (ds_ret (dm_val ((de_at ((de_v 1)) ((de_cal T.c12 hr tX (da_cons ((de_v 0)) (da_cons ((de_len T.z_len ((de_v 1)))) da_nil)))))))))
theorem S15 : FnScope ["_law_tin", "_law_goods_so", "_law_count_so", "_law_pool_so", "_law_found", "_law_lap"] ["_law_tin", "_law_goods_so", "_law_count_so"] (defScope s15) := ⟨rfl, rfl, rfl, by decide +kernel, rfl, by decide +kernel, by decide +kernel⟩
theorem h15 (T : Tp P w K mg base C k r) (f : Addr) (cdv : Value) (A : Around) (outer : List Env) (s : Shared) (H : Hp) (E : XK) (L : List Addr) (H0 G0 : Hp) (hr : Room k (A.deeper (envOfC "_law_pick" (defScope s15) s.heap.objs.size f cdv))) :
    DSs (cxOf (L2.CX P w) P w K mg base ["_law_tin", "_law_goods_so", "_law_count_so", "_law_pool_so", "_law_found", "_law_lap"] "_law_pick" (defScope s15) f cdv A outer s H E) ⟨K, L, H0, G0, C⟩ (fun cls d _ H => E cls d H) (defBody s15) (b15 r) := by
  have hN : (cxOf (L2.CX P w) P w K mg base ["_law_tin", "_law_goods_so", "_law_count_so", "_law_pool_so", "_law_found", "_law_lap"] "_law_pick" (defScope s15) f cdv A outer s H E).N.Nodup := S15.nd
  have tX : Takes (cxOf (L2.CX P w) P w K mg base ["_law_tin", "_law_goods_so", "_law_count_so", "_law_pool_so", "_law_found", "_law_lap"] "_law_pick" (defScope s15) f cdv A outer s H E) (fun cls d _ H => E cls d H) := takes_of rfl rfl rfl rfl
  have hp := passes_of (X := cxOf (L2.CX P w) P w K mg base ["_law_tin", "_law_goods_so", "_law_count_so", "_law_pool_so", "_law_found", "_law_lap"] "_law_pick" (defScope s15) f cdv A outer s H E) rfl
  exact (dss_cons (ds_par (i := 3) (j := 4) rfl hN (dm_own ((dn_list T.z_list ((de_v 1))))) (dm_own ((dn_lst da_nil))))
    (dss_cons (ds_for hp rfl (di_rng1 T.z_range ((de_min2 rfl T.z_min ((de_int1 T.z_int ((de_v 2)))) ((de_len T.z_len ((de_v 3))))))) (dg_name 5 hN) (dss_one (ds_appPop 4 3 ((de_cal T.c12 hr tX (da_cons ((de_v 0)) (da_cons ((de_len T.z_len ((de_v 3)))) da_nil)))))))
    (dss_one (ds_retO 4))))
theorem S16 : FnScope ["_law_matter", "_law_bit"] ["_law_matter"] (defScope s16) := ⟨rfl, rfl, rfl, by decide +kernel, rfl, by decide +kernel, by decide +kernel⟩
theorem h16 (T : Tp P w K mg base C k r) (f : Addr) (cdv : Value) (A : Around) (outer : List Env) (s : Shared) (H : Hp) (E : XK) (L : List Addr) (H0 G0 : Hp) (hr : Room k (A.deeper (envOfC "_law_lists" (defScope s16) s.heap.objs.size f cdv))) :
    DSs (cxOf (L2.CX P w) P w K mg base ["_law_matter", "_law_bit"] "_law_lists" (defScope s16) f cdv A outer s H E) ⟨K, L, H0, G0, C⟩ (fun cls d _ H => E cls d H) (defBody s16) (b16 r) := by
  have hN : (cxOf (L2.CX P w) P w K mg base ["_law_matter", "_law_bit"] "_law_lists" (defScope s16) f cdv A outer s H E).N.Nodup := S16.nd
  exact (dss_one (ds_ret (dm_val ((de_if ((dt_truth ((de_isiT T.z_isinstance (pa_tyc T.z_list (by decide +kernel) (pa_tyc T.z_tuple (by decide +kernel) pa_ty0)) ((de_v 0)))))) (DN.de ((dn_lc rfl hN (di_c (di_any ((de_v 0)))) (blkOk_by (own := [("_law_bit", 1)]) (by rfl)) (fun _ _ _ _ _ => (dg_name 1 hN)) (fun _ _ _ _ _ => dts_nil) (fun _ _ _ _ _ => (de_cal T.c16 hr tk0 (da_cons ((de_v 1)) da_nil)))))) ((de_v 0)))))))
theorem S17 : FnScope ["_law_got", "_law_due", "_law_mine", "_law_its"] ["_law_got", "_law_due"] (defScope s17) := ⟨rfl, rfl, rfl, by decide +kernel, rfl, by decide +kernel, by decide +kernel⟩
theorem h17 (T : Tp P w K mg base C k r) (f : Addr) (cdv : Value) (A : Around) (outer : List Env) (s : Shared) (H : Hp) (E : XK) (L : List Addr) (H0 G0 : Hp) (hr : Room k (A.deeper (envOfC "_law_same" (defScope s17) s.heap.objs.size f cdv))) :
    DSs (cxOf (L2.CX P w) P w K mg base ["_law_got", "_law_due", "_law_mine", "_law_its"] "_law_same" (defScope s17) f cdv A outer s H E) ⟨K, L, H0, G0, C⟩ (fun cls d _ H => E cls d H) (defBody s17) (b17 r) := by
  have hN : (cxOf (L2.CX P w) P w K mg base ["_law_got", "_law_due", "_law_mine", "_law_its"] "_law_same" (defScope s17) f cdv A outer s H E).N.Nodup := S17.nd
  have hu : (A.deeper (envOfC "_law_same" (defScope s17) s.heap.objs.size f cdv)).units + 64 < cLine := hr.units
  exact (dss_cons (ds_if ((dt_truth ((de_isiT T.z_isinstance (pa_tyc T.z_list (by decide +kernel) (pa_tyc T.z_tuple (by decide +kernel) pa_ty0)) ((de_v 1)))))) (dss_cons (ds_if ((dt_w (dw_or ((dt_ne hu ((de_isi T.z_isinstance T.z_list (by decide +kernel) ((de_v 0)))) ((de_isi T.z_isinstance T.z_list (by decide +kernel) ((de_v 1)))))) (dw_or1 ((dt_ne hu ((de_isi T.z_isinstance T.z_tuple (by decide +kernel) ((de_v 0)))) ((de_isi T.z_isinstance T.z_tuple (by decide +kernel) ((de_v 1)))))))))) (dss_one (ds_ret (dm_val (de_bl)))) dss_nil)
    (dss_one (ds_ret (dm_val ((de_and ((de_eq hu ((de_len T.z_len ((de_v 0)))) ((de_len T.z_len ((de_v 1)))))) (de_one ((de_all rfl T.z_all (DN.de ((dn_lc rfl hN (di_c (di_zp T.z_zip ((de_v 0)) ((de_v 1)))) (blkOk_by (own := [("_law_mine", 2), ("_law_its", 3)]) (by rfl)) (fun _ _ _ _ _ => (dg_tup rfl (dgs_cons (dg_name 2 hN) (dgs_cons (dg_name 3 hN) dgs_nil)))) (fun _ _ _ _ _ => dts_nil) (fun _ _ _ _ _ => (de_cal T.c17 hr tk0 (da_cons ((de_v 2)) (da_cons ((de_v 3)) da_nil)))))))))))))))) dss_nil)
    (dss_cons (ds_if ((dt_w (dw_or ((dt_isN ((de_v 1)) (de_non))) (dw_or1 ((dt_truth ((de_isiT T.z_isinstance (pa_tyc T.z_bool (by decide +kernel) (pa_tyc T.z_str (by decide +kernel) pa_ty0)) ((de_v 1)))))))))) (dss_one (ds_ret (dm_val ((de_and ((de_eq hu ((de_v 0)) ((de_v 1)))) (de_and ((de_eq hu ((de_isi T.z_isinstance T.z_bool (by decide +kernel) ((de_v 0)))) ((de_isi T.z_isinstance T.z_bool (by decide +kernel) ((de_v 1)))))) (de_one ((de_eq hu ((de_isN ((de_v 0)) (de_non))) ((de_isN ((de_v 1)) (de_non)))))))))))) dss_nil)
    (dss_one (ds_ret (dm_val ((de_and ((de_isi T.z_isinstance T.z_int (by decide +kernel) ((de_v 0)))) (de_and ((de_not ((de_isi T.z_isinstance T.z_bool (by decide +kernel) ((de_v 0)))))) (de_one ((de_eq hu ((de_v 0)) ((de_v 1)))))))))))))
theorem S18 : FnScope ["_law_leaf_here", "_law_found", "_law_k", "_law_bit", "_law_own"] ["_law_leaf_here"] (defScope s18) := ⟨rfl, rfl, rfl, by decide +kernel, rfl, by decide +kernel, by decide +kernel⟩
theorem h18 (T : Tp P w K mg base C k r) (f : Addr) (cdv : Value) (A : Around) (outer : List Env) (s : Shared) (H : Hp) (E : XK) (L : List Addr) (H0 G0 : Hp) (hr : Room k (A.deeper (envOfC "_law_spots" (defScope s18) s.heap.objs.size f cdv))) :
    DSs (cxOf (L2.CX P w) P w K mg base ["_law_leaf_here", "_law_found", "_law_k", "_law_bit", "_law_own"] "_law_spots" (defScope s18) f cdv A outer s H E) ⟨K, L, H0, G0, C⟩ (fun cls d _ H => E cls d H) (defBody s18) (b18 r) := by
  have hN : (cxOf (L2.CX P w) P w K mg base ["_law_leaf_here", "_law_found", "_law_k", "_law_bit", "_law_own"] "_law_spots" (defScope s18) f cdv A outer s H E).N.Nodup := S18.nd
  have tX : Takes (cxOf (L2.CX P w) P w K mg base ["_law_leaf_here", "_law_found", "_law_k", "_law_bit", "_law_own"] "_law_spots" (defScope s18) f cdv A outer s H E) (fun cls d _ H => E cls d H) := takes_of rfl rfl rfl rfl
  have hp := passes_of (X := cxOf (L2.CX P w) P w K mg base ["_law_leaf_here", "_law_found", "_law_k", "_law_bit", "_law_own"] "_law_spots" (defScope s18) f cdv A outer s H E) rfl
  exact (dss_cons (ds_set (i := 1) hN (dm_val (DN.de ((dn_lst (da_cons ((de_tup da_nil)) da_nil))))))
    (dss_cons (ds_for hp rfl (di_en T.z_enumerate ((de_slice ((de_v 0)) (do_some (de_int)) do_none))) (dg_tup rfl (dgs_cons (dg_name 2 hN) (dgs_cons (dg_name 3 hN) dgs_nil))) (dss_one (ds_set (i := 1) hN (dm_val (DN.de ((dn_cat ((de_v 1)) (DN.de ((dn_lc rfl hN (di_c (di_any ((de_cal T.c18 hr tX (da_cons ((de_v 3)) da_nil))))) (blkOk_by (own := [("_law_own", 4)]) (by rfl)) (fun _ _ _ _ _ => (dg_name 4 hN)) (fun _ _ _ _ _ => dts_nil) (fun _ _ _ _ _ => (de_add ((de_tup (da_cons ((de_v 2)) da_nil))) ((de_v 4))))))))))))))
    (dss_one (ds_ret (dm_val ((de_v 1)))))))
theorem S19 : FnScope ["_law_leaf_here", "_law_spot_so", "_law_here", "_law_k"] ["_law_leaf_here", "_law_spot_so"] (defScope s19) := ⟨rfl, rfl, rfl, by decide +kernel, rfl, by decide +kernel, by decide +kernel⟩
theorem h19 (T : Tp P w K mg base C k r) (f : Addr) (cdv : Value) (A : Around) (outer : List Env) (s : Shared) (H : Hp) (E : XK) (L : List Addr) (H0 G0 : Hp) (hr : Room k (A.deeper (envOfC "_law_at" (defScope s19) s.heap.objs.size f cdv))) :
    DSs (cxOf (L2.CX P w) P w K mg base ["_law_leaf_here", "_law_spot_so", "_law_here", "_law_k"] "_law_at" (defScope s19) f cdv A outer s H E) ⟨K, L, H0, G0, C⟩ (fun cls d _ H => E cls d H) (defBody s19) (b19 r) := by
  have hN : (cxOf (L2.CX P w) P w K mg base ["_law_leaf_here", "_law_spot_so", "_law_here", "_law_k"] "_law_at" (defScope s19) f cdv A outer s H E).N.Nodup := S19.nd
  have hp := passes_of (X := cxOf (L2.CX P w) P w K mg base ["_law_leaf_here", "_law_spot_so", "_law_here", "_law_k"] "_law_at" (defScope s19) f cdv A outer s H E) rfl
  exact (dss_cons (ds_set (i := 2) hN (dm_val ((de_v 0))))
    (dss_cons (ds_for hp rfl (di_any ((de_v 1))) (dg_name 3 hN) (dss_one (ds_set (i := 2) hN (dm_val ((de_at ((de_v 2)) ((de_add ((de_v 3)) (de_int)))))))))
    (dss_one (ds_ret (dm_val ((de_v 2)))))))
theorem S20 : FnScope ["_law_leaf_here", "_law_spot_so", "_law_fresh_so", "_law_k"] ["_law_leaf_here", "_law_spot_so", "_law_fresh_so"] (defScope s20) := ⟨rfl, rfl, rfl, by decide +kernel, rfl, by decide +kernel, by decide +kernel⟩
theorem h20 (T : Tp P w K mg base C k r) (f : Addr) (cdv : Value) (A : Around) (outer : List Env) (s : Shared) (H : Hp) (E : XK) (L : List Addr) (H0 G0 : Hp) (hr : Room k (A.deeper (envOfC "_law_put" (defScope s20) s.heap.objs.size f cdv))) :
    DSs (cxOf (L2.CX P w) P w K mg base ["_law_leaf_here", "_law_spot_so", "_law_fresh_so", "_law_k"] "_law_put" (defScope s20) f cdv A outer s H E) ⟨K, L, H0, G0, C⟩ (fun cls d _ H => E cls d H) (defBody s20) (b20 r) := by
  have hN : (cxOf (L2.CX P w) P w K mg base ["_law_leaf_here", "_law_spot_so", "_law_fresh_so", "_law_k"] "_law_put" (defScope s20) f cdv A outer s H E).N.Nodup := S20.nd
  have hu : (A.deeper (envOfC "_law_put" (defScope s20) s.heap.objs.size f cdv)).units + 64 < cLine := hr.units
  have tX : Takes (cxOf (L2.CX P w) P w K mg base ["_law_leaf_here", "_law_spot_so", "_law_fresh_so", "_law_k"] "_law_put" (defScope s20) f cdv A outer s H E) (fun cls d _ H => E cls d H) := takes_of rfl rfl rfl rfl
  exact (dss_cons (ds_if ((dt_eq hu ((de_v 1)) ((de_tup da_nil)))) (dss_one (ds_ret (dm_val ((de_v 2))))) dss_nil)
    (dss_cons (ds_set (i := 3) hN (dm_val ((de_add ((de_at ((de_v 1)) (de_int))) (de_int)))))
    (dss_one (ds_ret (dm_val ((de_add ((de_add ((de_slice ((de_v 0)) do_none (do_some ((de_v 3))))) ((de_tup (da_cons ((de_cal T.c20 hr tX (da_cons ((de_at ((de_v 0)) ((de_v 3)))) (da_cons ((de_slice ((de_v 1)) (do_some (de_int)) do_none)) (da_cons ((de_v 2)) da_nil))))) da_nil))))) ((de_slice ((de_v 0)) (do_some ((de_add ((de_v 3)) (de_int)))) do_none)))))))))
theorem S45 : FnScope ["_law_one_so", "_law_two_so", "_law_mine", "_law_its"] ["_law_one_so", "_law_two_so"] (defScope s45) := ⟨rfl, rfl, rfl, by decide +kernel, rfl, by decide +kernel, by decide +kernel⟩
theorem h45 (T : Tp P w K mg base C k r) (f : Addr) (cdv : Value) (A : Around) (outer : List Env) (s : Shared) (H : Hp) (E : XK) (L : List Addr) (H0 G0 : Hp) (hr : Room k (A.deeper (envOfC "_law_agree" (defScope s45) s.heap.objs.size f cdv))) :
    DSs (cxOf (L2.CX P w) P w K mg base ["_law_one_so", "_law_two_so", "_law_mine", "_law_its"] "_law_agree" (defScope s45) f cdv A outer s H E) ⟨K, L, H0, G0, C⟩ (fun cls d _ H => E cls d H) (defBody s45) (b45 r) := by
  have hN : (cxOf (L2.CX P w) P w K mg base ["_law_one_so", "_law_two_so", "_law_mine", "_law_its"] "_law_agree" (defScope s45) f cdv A outer s H E).N.Nodup := S45.nd
  have hu : (A.deeper (envOfC "_law_agree" (defScope s45) s.heap.objs.size f cdv)).units + 64 < cLine := hr.units
  exact (dss_cons (ds_if ((dt_w (dw_or ((dt_eq hu ((de_v 0)) ((de_tup da_nil)))) (dw_or1 ((dt_eq hu ((de_v 1)) ((de_tup da_nil)))))))) (dss_one (ds_ret (dm_val (de_bl)))) dss_nil)
    (dss_cons (ds_if ((dt_w (dw_or ((dt_ne hu ((de_at ((de_v 0)) (de_int))) ((de_at ((de_v 1)) (de_int))))) (dw_or1 ((dt_ne hu ((de_len T.z_len ((de_v 0)))) ((de_len T.z_len ((de_v 1)))))))))) (dss_one (ds_ret (dm_val (de_bl)))) dss_nil)
    (dss_one (ds_ret (dm_val ((de_all rfl T.z_all (DN.de ((dn_lc rfl hN (di_c (di_zp T.z_zip ((de_slice ((de_v 0)) (do_some (de_int)) do_none)) ((de_slice ((de_v 1)) (do_some (de_int)) do_none)))) (blkOk_by (own := [("_law_mine", 2), ("_law_its", 3)]) (by rfl)) (fun _ _ _ _ _ => (dg_tup rfl (dgs_cons (dg_name 2 hN) (dgs_cons (dg_name 3 hN) dgs_nil)))) (fun _ _ _ _ _ => dts_nil) (fun _ _ _ _ _ => (de_cal T.c45 hr tk0 (da_cons ((de_v 2)) (da_cons ((de_v 3)) da_nil))))))))))))))
theorem S46 : FnScope ["_law_page_so", "_law_found", "_law_own", "_law_spot_so", "_law_bit"] ["_law_page_so"] (defScope s46) := ⟨rfl, rfl, rfl, by decide +kernel, rfl, by decide +kernel, by decide +kernel⟩
theorem h46 (T : Tp P w K mg base C k r) (f : Addr) (cdv : Value) (A : Around) (outer : List Env) (s : Shared) (H : Hp) (E : XK) (L : List Addr) (H0 G0 : Hp) (hr : Room k (A.deeper (envOfC "_law_bits" (defScope s46) s.heap.objs.size f cdv))) :
    DSs (cxOf (L2.CX P w) P w K mg base ["_law_page_so", "_law_found", "_law_own", "_law_spot_so", "_law_bit"] "_law_bits" (defScope s46) f cdv A outer s H E) ⟨K, L, H0, G0, C⟩ (fun cls d _ H => E cls d H) (defBody s46) (b46 r) := by
  have hN : (cxOf (L2.CX P w) P w K mg base ["_law_page_so", "_law_found", "_law_own", "_law_spot_so", "_law_bit"] "_law_bits" (defScope s46) f cdv A outer s H E).N.Nodup := S46.nd
  have hu : (A.deeper (envOfC "_law_bits" (defScope s46) s.heap.objs.size f cdv)).units + 64 < cLine := hr.units
  have tX : Takes (cxOf (L2.CX P w) P w K mg base ["_law_page_so", "_law_found", "_law_own", "_law_spot_so", "_law_bit"] "_law_bits" (defScope s46) f cdv A outer s H E) (fun cls d _ H => E cls d H) := takes_of rfl rfl rfl rfl
  have hp := passes_of (X := cxOf (L2.CX P w) P w K mg base ["_law_page_so", "_law_found", "_law_own", "_law_spot_so", "_law_bit"] "_law_bits" (defScope s46) f cdv A outer s H E) rfl
  exact (dss_cons (ds_set (i := 1) hN (dm_val (DN.de ((dn_lst da_nil)))))
    (dss_cons (ds_for hp rfl (di_any ((de_v 0))) (dg_name 2 hN) (dss_one (ds_set (i := 1) hN (dm_val (DN.de ((dn_cat ((de_v 1)) (DN.de ((dn_lc rfl hN (di_c (di_any (DN.de ((dn_slice ((de_cal T.c18 hr tX (da_cons ((de_v 2)) da_nil))) (do_some (de_int)) do_none))))) (blkOk_by (own := [("_law_spot_so", 3)]) (by rfl)) (fun _ _ _ _ _ => (dg_name 3 hN)) (fun _ _ _ _ _ => dts_nil) (fun _ _ _ _ _ => (de_cal T.c19 hr tk0 (da_cons ((de_v 2)) (da_cons ((de_v 3)) da_nil))))))))))))))
    (dss_one (ds_ret (dm_own ((dn_sset hu T.z_sorted T.z_set (DN.de ((dn_lc rfl hN (di_c (di_any ((de_v 1)))) (blkOk_by (own := [("_law_bit", 4)]) (by rfl)) (fun _ _ _ _ _ => (dg_name 4 hN)) (fun _ _ _ _ _ => (dts_one ((dt_ne hu ((de_v 4)) ((de_tup da_nil)))))) (fun _ _ _ _ _ => (de_v 4))))))))))))
theorem S47 : FnScope ["_law_page_so", "_law_leaf_here", "_law_own"] ["_law_page_so", "_law_leaf_here"] (defScope s47) := ⟨rfl, rfl, rfl, by decide +kernel, rfl, by decide +kernel, by decide +kernel⟩
theorem h47 (T : Tp P w K mg base C k r) (f : Addr) (cdv : Value) (A : Around) (outer : List Env) (s : Shared) (H : Hp) (E : XK) (L : List Addr) (H0 G0 : Hp) (hr : Room k (A.deeper (envOfC "_law_touched" (defScope s47) s.heap.objs.size f cdv))) :
    DSs (cxOf (L2.CX P w) P w K mg base ["_law_page_so", "_law_leaf_here", "_law_own"] "_law_touched" (defScope s47) f cdv A outer s H E) ⟨K, L, H0, G0, C⟩ (fun cls d _ H => E cls d H) (defBody s47) (b47 r) := by
  have hN : (cxOf (L2.CX P w) P w K mg base ["_law_page_so", "_law_leaf_here", "_law_own"] "_law_touched" (defScope s47) f cdv A outer s H E).N.Nodup := S47.nd
  have hu : (A.deeper (envOfC "_law_touched" (defScope s47) s.heap.objs.size f cdv)).units + 64 < cLine := hr.units
  exact (dss_one (ds_ret (dm_val ((de_and ((de_ne hu ((de_v 1)) ((de_tup da_nil)))) (de_one ((de_ne hu (DN.de ((dn_lc rfl hN (di_c (di_any ((de_v 0)))) (blkOk_by (own := [("_law_own", 2)]) (by rfl)) (fun _ _ _ _ _ => (dg_name 2 hN)) (fun _ _ _ _ _ => (dts_one ((dt_truth ((de_cal T.c45 hr tk0 (da_cons ((de_v 2)) (da_cons ((de_v 1)) da_nil)))))))) (fun _ _ _ _ _ => (de_v 2))))) (DN.de ((dn_lst da_nil)))))))))))
theorem S48 : FnScope ["_law_page_so", "_law_leaf_here", "_law_left_so", "_law_lap", "_law_hit_so", "_law_spot_so"] ["_law_page_so", "_law_leaf_here"] (defScope s48) := ⟨rfl, rfl, rfl, by decide +kernel, rfl, by decide +kernel, by decide +kernel⟩
theorem h48 (T : Tp P w K mg base C k r) (f : Addr) (cdv : Value) (A : Around) (outer : List Env) (s : Shared) (H : Hp) (E : XK) (L : List Addr) (H0 G0 : Hp) (hr : Room k (A.deeper (envOfC "_law_blot" (defScope s48) s.heap.objs.size f cdv))) :
    DSs (cxOf (L2.CX P w) P w K mg base ["_law_page_so", "_law_leaf_here", "_law_left_so", "_law_lap", "_law_hit_so", "_law_spot_so"] "_law_blot" (defScope s48) f cdv A outer s H E) ⟨K, L, H0, G0, C⟩ (fun cls d _ H => E cls d H) (defBody s48) (b48 r) := by
  have hN : (cxOf (L2.CX P w) P w K mg base ["_law_page_so", "_law_leaf_here", "_law_left_so", "_law_lap", "_law_hit_so", "_law_spot_so"] "_law_blot" (defScope s48) f cdv A outer s H E).N.Nodup := S48.nd
  have hu : (A.deeper (envOfC "_law_blot" (defScope s48) s.heap.objs.size f cdv)).units + 64 < cLine := hr.units
  have tX : Takes (cxOf (L2.CX P w) P w K mg base ["_law_page_so", "_law_leaf_here", "_law_left_so", "_law_lap", "_law_hit_so", "_law_spot_so"] "_law_blot" (defScope s48) f cdv A outer s H E) (fun cls d _ H => E cls d H) := takes_of rfl rfl rfl rfl
  have hp := passes_of (X := cxOf (L2.CX P w) P w K mg base ["_law_page_so", "_law_leaf_here", "_law_left_so", "_law_lap", "_law_hit_so", "_law_spot_so"] "_law_blot" (defScope s48) f cdv A outer s H E) rfl
  exact (dss_cons (ds_set (i := 2) hN (dm_val ((de_v 1))))
    (dss_cons (ds_for hp rfl (di_rng1 T.z_range (de_int)) (dg_name 3 hN) (dss_cons (ds_setLc (i := 4) true rfl hN (by rfl) (di_c (di_any ((de_cal T.c18 hr tX (da_cons ((de_v 2)) da_nil))))) (blkOk_by (own := [("_law_spot_so", 5)]) (by rfl)) (fun _ _ _ _ _ => (dg_name 5 hN)) (fun _ _ _ _ _ => (dts_one ((dt_truth ((de_cal T.c47 hr tk0 (da_cons ((de_v 0)) (da_cons ((de_cal T.c19 hr tk0 (da_cons ((de_v 2)) (da_cons ((de_v 5)) da_nil)))) da_nil)))))))) (fun _ _ _ _ _ => (de_v 5)))
    (dss_cons (ds_if ((dt_eq hu ((de_v 4)) (DN.de ((dn_lst da_nil))))) (dss_one (ds_ret (dm_val ((de_v 2))))) dss_nil)
    (dss_one (ds_set (i := 2) hN (dm_val ((de_cal T.c20 hr tX (da_cons ((de_v 2)) (da_cons ((de_at ((de_v 4)) (de_int))) (da_cons ((de_tup da_nil)) da_nil)))))))))))
    (dss_one (ds_ret (dm_val ((de_v 2)))))))
theorem S21 : FnScope ["_law_tin", "_law_signs_so", "_law_fuel_so", "_law_deep_so", "_law_small_so", "_law_own", "_law_word_so", "_law_many_so", "_law_left_so", "_law_bits_so", "_law_k", "_law_share_so"] ["_law_tin", "_law_signs_so", "_law_fuel_so", "_law_deep_so"] (defScope s21) := ⟨rfl, rfl, rfl, by decide +kernel, rfl, by decide +kernel, by decide +kernel⟩
theorem h21 (T : Tp P w K mg base C k r) (f : Addr) (cdv : Value) (A : Around) (outer : List Env) (s : Shared) (H : Hp) (E : XK) (L : List Addr) (H0 G0 : Hp) (hr : Room k (A.deeper (envOfC "_law_leaf" (defScope s21) s.heap.objs.size f cdv))) :
    DSs (cxOf (L2.CX P w) P w K mg base ["_law_tin", "_law_signs_so", "_law_fuel_so", "_law_deep_so", "_law_small_so", "_law_own", "_law_word_so", "_law_many_so", "_law_left_so", "_law_bits_so", "_law_k", "_law_share_so"] "_law_leaf" (defScope s21) f cdv A outer s H E) ⟨K, L, H0, G0, C⟩ (fun cls d _ H => E cls d H) (defBody s21) (b21 r) := by
  have hN : (cxOf (L2.CX P w) P w K mg base ["_law_tin", "_law_signs_so", "_law_fuel_so", "_law_deep_so", "_law_small_so", "_law_own", "_law_word_so", "_law_many_so", "_law_left_so", "_law_bits_so", "_law_k", "_law_share_so"] "_law_leaf" (defScope s21) f cdv A outer s H E).N.Nodup := S21.nd
  have hu : (A.deeper (envOfC "_law_leaf" (defScope s21) s.heap.objs.size f cdv)).units + 64 < cLine := hr.units
  have tX : Takes (cxOf (L2.CX P w) P w K mg base ["_law_tin", "_law_signs_so", "_law_fuel_so", "_law_deep_so", "_law_small_so", "_law_own", "_law_word_so", "_law_many_so", "_law_left_so", "_law_bits_so", "_law_k", "_law_share_so"] "_law_leaf" (defScope s21) f cdv A outer s H E) (fun cls d _ H => E cls d H) := takes_of rfl rfl rfl rfl
  have hp := passes_of (X := cxOf (L2.CX P w) P w K mg base ["_law_tin", "_law_signs_so", "_law_fuel_so", "_law_deep_so", "_law_small_so", "_law_own", "_law_word_so", "_law_many_so", "_law_left_so", "_law_bits_so", "_law_k", "_law_share_so"] "_law_leaf" (defScope s21) f cdv A outer s H E) rfl
  exact (dss_cons (ds_setLc (i := 4) true rfl hN (by rfl) (di_c (di_any ((de_v 1)))) (blkOk_by (own := [("_law_own", 5)]) (by rfl)) (fun _ _ _ _ _ => (dg_name 5 hN)) (fun _ _ _ _ _ => (dts_one ((dt_w (dw_and ((dt_lt ((de_at ((de_v 5)) (de_int))) ((de_v 2)))) (dw_and1 ((dt_w (dw_or ((dt_gt ((de_v 3)) (de_int))) (dw_or1 ((dt_eq hu ((de_at ((de_v 5)) (de_int))) (de_int))))))))))))) (fun _ _ _ _ _ => (de_v 5)))
    (dss_cons (ds_if ((dt_w (dw_or ((dt_eq hu ((de_cal T.c12 hr tX (da_cons ((de_v 0)) (da_cons (de_int) da_nil)))) (de_int))) (dw_or1 ((dt_eq hu ((de_v 4)) (DN.de ((dn_lst da_nil))))))))) (dss_one (ds_ret (dm_val ((de_tup da_nil))))) dss_nil)
    (dss_cons (ds_asg ((de_cal T.c14 hr tX (da_cons ((de_v 0)) (da_cons ((de_v 4)) da_nil)))) (dg_tup rfl (dgs_cons (dg_name 6 hN) (dgs_cons (dg_name 7 hN) dgs_nil))))
    (dss_cons (ds_par (i := 8) (j := 9) rfl hN (dm_val ((de_sub ((de_v 2)) (de_int)))) (dm_own ((dn_lst da_nil))))
    (dss_cons (ds_for hp rfl (di_rng1 T.z_range ((de_v 7))) (dg_name 10 hN) (dss_cons (ds_set (i := 11) hN (dm_val ((de_add (de_int) ((de_cal T.c12 hr tX (da_cons ((de_v 0)) (da_cons ((de_sub ((de_v 8)) ((de_sub ((de_sub ((de_v 7)) ((de_v 10)))) (de_int))))) da_nil))))))))
    (dss_cons (ds_append 9 ((de_cal T.c21 hr tX (da_cons ((de_v 0)) (da_cons ((de_v 1)) (da_cons ((de_v 11)) (da_cons ((de_sub ((de_v 3)) (de_int))) da_nil)))))))
    (dss_one (ds_set (i := 8) hN (dm_val ((de_sub ((de_v 8)) ((de_v 11))))))))))
    (dss_one (ds_ret (dm_val ((de_add ((de_tup (da_cons ((de_v 6)) da_nil))) ((de_tuple T.z_tuple ((de_v 9))))))))))))))
theorem S22 : FnScope ["_law_tin", "_law_signs_so", "_law_fuel_so", "_law_deep_so", "_law_wide_so", "_law_own", "_law_word_so", "_law_many_so", "_law_share_so", "_law_k"] ["_law_tin", "_law_signs_so", "_law_fuel_so", "_law_deep_so"] (defScope s22) := ⟨rfl, rfl, rfl, by decide +kernel, rfl, by decide +kernel, by decide +kernel⟩
theorem h22 (T : Tp P w K mg base C k r) (f : Addr) (cdv : Value) (A : Around) (outer : List Env) (s : Shared) (H : Hp) (E : XK) (L : List Addr) (H0 G0 : Hp) (hr : Room k (A.deeper (envOfC "_law_great" (defScope s22) s.heap.objs.size f cdv))) :
    DSs (cxOf (L2.CX P w) P w K mg base ["_law_tin", "_law_signs_so", "_law_fuel_so", "_law_deep_so", "_law_wide_so", "_law_own", "_law_word_so", "_law_many_so", "_law_share_so", "_law_k"] "_law_great" (defScope s22) f cdv A outer s H E) ⟨K, L, H0, G0, C⟩ (fun cls d _ H => E cls d H) (defBody s22) (b22 r) := by
  have hN : (cxOf (L2.CX P w) P w K mg base ["_law_tin", "_law_signs_so", "_law_fuel_so", "_law_deep_so", "_law_wide_so", "_law_own", "_law_word_so", "_law_many_so", "_law_share_so", "_law_k"] "_law_great" (defScope s22) f cdv A outer s H E).N.Nodup := S22.nd
  have tX : Takes (cxOf (L2.CX P w) P w K mg base ["_law_tin", "_law_signs_so", "_law_fuel_so", "_law_deep_so", "_law_wide_so", "_law_own", "_law_word_so", "_law_many_so", "_law_share_so", "_law_k"] "_law_great" (defScope s22) f cdv A outer s H E) (fun cls d _ H => E cls d H) := takes_of rfl rfl rfl rfl
  exact (dss_cons (ds_set (i := 4) hN (dm_val (DN.de ((dn_or ((dn_lc rfl hN (di_c (di_any ((de_v 1)))) (blkOk_by (own := [("_law_own", 5)]) (by rfl)) (fun _ _ _ _ _ => (dg_name 5 hN)) (fun _ _ _ _ _ => (dts_one ((dt_ch (de_int) ((de_at ((de_v 5)) (de_int))) ((de_v 2)))))) (fun _ _ _ _ _ => (de_v 5)))) ((dn_lst (da_cons ((de_tup (da_cons (de_str) (da_cons (de_int) da_nil)))) da_nil))))))))
    (dss_cons (ds_asg ((de_cal T.c14 hr tX (da_cons ((de_v 0)) (da_cons ((de_v 4)) da_nil)))) (dg_tup rfl (dgs_cons (dg_name 6 hN) (dgs_cons (dg_name 7 hN) dgs_nil))))
    (dss_cons (ds_set (i := 8) hN (dm_val ((de_max2 rfl T.z_max (de_int) ((de_div ((de_sub ((de_v 2)) (de_int))) ((de_v 7))))))))
    (dss_one (ds_ret (dm_val ((de_add ((de_tup (da_cons ((de_v 6)) da_nil))) ((de_tuple T.z_tuple (DN.de ((dn_lc rfl hN (di_c (di_rng1 T.z_range ((de_v 7)))) (blkOk_by (own := [("_law_k", 9)]) (by rfl)) (fun _ _ _ _ _ => (dg_name 9 hN)) (fun _ _ _ _ _ => dts_nil) (fun _ _ _ _ _ => (de_cal T.c21 hr tk0 (da_cons ((de_v 0)) (da_cons ((de_v 1)) (da_cons ((de_v 8)) (da_cons ((de_sub ((de_v 3)) (de_int))) da_nil)))))))))))))))))))
theorem S49 : FnScope ["_law_tin", "_law_word_so", "_law_many_so", "_law_bits_so", "_law_k", "_law_small_so"] ["_law_tin"] (defScope s49) := ⟨rfl, rfl, rfl, by decide +kernel, rfl, by decide +kernel, by decide +kernel⟩
theorem h49 (T : Tp P w K mg base C k r) (f : Addr) (cdv : Value) (A : Around) (outer : List Env) (s : Shared) (H : Hp) (E : XK) (L : List Addr) (H0 G0 : Hp) (hr : Room k (A.deeper (envOfC "_law_side" (defScope s49) s.heap.objs.size f cdv))) :
    DSs (cxOf (L2.CX P w) P w K mg base ["_law_tin", "_law_word_so", "_law_many_so", "_law_bits_so", "_law_k", "_law_small_so"] "_law_side" (defScope s49) f cdv A outer s H E) ⟨K, L, H0, G0, C⟩ (fun cls d _ H => E cls d H) (defBody s49) (b49 r) := by
  have hN : (cxOf (L2.CX P w) P w K mg base ["_law_tin", "_law_word_so", "_law_many_so", "_law_bits_so", "_law_k", "_law_small_so"] "_law_side" (defScope s49) f cdv A outer s H E).N.Nodup := S49.nd
  have tX : Takes (cxOf (L2.CX P w) P w K mg base ["_law_tin", "_law_word_so", "_law_many_so", "_law_bits_so", "_law_k", "_law_small_so"] "_law_side" (defScope s49) f cdv A outer s H E) (fun cls d _ H => E cls d H) := takes_of rfl rfl rfl rfl
  have hp := passes_of (X := cxOf (L2.CX P w) P w K mg base ["_law_tin", "_law_word_so", "_law_many_so", "_law_bits_so", "_law_k", "_law_small_so"] "_law_side" (defScope s49) f cdv A outer s H E) rfl
  exact (dss_cons (ds_asg ((de_cal T.c14 hr tX (da_cons ((de_v 0)) (da_cons (DN.de ((dn_lst (da_cons ((de_tup (da_cons (de_str) (da_cons (de_int) da_nil)))) (da_cons ((de_tup (da_cons (de_str) (da_cons (de_int) da_nil)))) (da_cons ((de_tup (da_cons (de_str) (da_cons (de_int) da_nil)))) (da_cons ((de_tup (da_cons (de_str) (da_cons (de_int) da_nil)))) da_nil))))))) da_nil)))) (dg_tup rfl (dgs_cons (dg_name 1 hN) (dgs_cons (dg_name 2 hN) dgs_nil))))
    (dss_cons (ds_set (i := 3) hN (dm_own ((dn_lst da_nil))))
    (dss_cons (ds_for hp rfl (di_rng1 T.z_range ((de_v 2))) (dg_name 4 hN) (dss_cons (ds_set (i := 5) hN (dm_val ((de_cal T.c14 hr tX (da_cons ((de_v 0)) (da_cons (DN.de ((dn_lst (da_cons ((de_tup da_nil)) (da_cons ((de_tup (da_cons (de_str) da_nil))) (da_cons ((de_tup (da_cons (de_str) da_nil))) da_nil)))))) da_nil))))))
    (dss_one (ds_append 3 ((de_cal T.c14 hr tX (da_cons ((de_v 0)) (da_cons (DN.de ((dn_lst (da_cons ((de_tup da_nil)) (da_cons ((de_tup da_nil)) (da_cons ((de_tup da_nil)) (da_cons ((de_tup (da_cons (de_str) da_nil))) (da_cons ((de_tup (da_cons (de_str) da_nil))) (da_cons ((de_tup (da_cons (de_str) da_nil))) (da_cons ((de_tup (da_cons (de_str) (da_cons ((de_v 5)) da_nil)))) (da_cons ((de_tup (da_cons (de_str) (da_cons ((de_v 5)) da_nil)))) da_nil))))))))))) da_nil))))))))
    (dss_one (ds_ret (dm_val ((de_add ((de_tup (da_cons ((de_v 1)) da_nil))) ((de_tuple T.z_tuple ((de_v 3))))))))))))
theorem S50 : FnScope ["_law_tin", "_law_many_so", "_law_found", "_law_lap", "_law_bits_so", "_law_bit"] ["_law_tin", "_law_many_so"] (defScope s50) := ⟨rfl, rfl, rfl, by decide +kernel, rfl, by decide +kernel, by decide +kernel⟩
theorem h50 (T : Tp P w K mg base C k r) (f : Addr) (cdv : Value) (A : Around) (outer : List Env) (s : Shared) (H : Hp) (E : XK) (L : List Addr) (H0 G0 : Hp) (hr : Room k (A.deeper (envOfC "_law_page" (defScope s50) s.heap.objs.size f cdv))) :
    DSs (cxOf (L2.CX P w) P w K mg base ["_law_tin", "_law_many_so", "_law_found", "_law_lap", "_law_bits_so", "_law_bit"] "_law_page" (defScope s50) f cdv A outer s H E) ⟨K, L, H0, G0, C⟩ (fun cls d _ H => E cls d H) (defBody s50) (b50 r) := by
  have hN : (cxOf (L2.CX P w) P w K mg base ["_law_tin", "_law_many_so", "_law_found", "_law_lap", "_law_bits_so", "_law_bit"] "_law_page" (defScope s50) f cdv A outer s H E).N.Nodup := S50.nd
  have hu : (A.deeper (envOfC "_law_page" (defScope s50) s.heap.objs.size f cdv)).units + 64 < cLine := hr.units
  have tX : Takes (cxOf (L2.CX P w) P w K mg base ["_law_tin", "_law_many_so", "_law_found", "_law_lap", "_law_bits_so", "_law_bit"] "_law_page" (defScope s50) f cdv A outer s H E) (fun cls d _ H => E cls d H) := takes_of rfl rfl rfl rfl
  exact (dss_cons (ds_setLc (i := 2) false rfl hN (by rfl) (di_c (di_rng1 T.z_range ((de_v 1)))) (blkOk_by (own := [("_law_lap", 3)]) (by rfl)) (fun _ _ _ _ _ => (dg_name 3 hN)) (fun _ _ _ _ _ => dts_nil) (fun _ _ _ _ _ => (de_cal T.c49 hr tk0 (da_cons ((de_v 0)) da_nil))))
    (dss_cons (ds_setLc (i := 4) true rfl hN (by rfl) (di_c (di_any (DN.de ((dn_frN 2 (dn_cal T.c46 hr tX (da_cons ((de_v 2)) da_nil))))))) (blkOk_by (own := [("_law_bit", 5)]) (by rfl)) (fun _ _ _ _ _ => (dg_name 5 hN)) (fun _ _ _ _ _ => dts_nil) (fun _ _ _ _ _ => (de_v 5)))
    (dss_cons (ds_if ((dt_w (dw_and ((dt_ne hu ((de_v 4)) (DN.de ((dn_lst da_nil))))) (dw_and1 ((dt_eq hu ((de_cal T.c12 hr tX (da_cons ((de_v 0)) (da_cons (de_int) da_nil)))) (de_int))))))) (dss_one (ds_append 2 ((de_cal T.c14 hr tX (da_cons ((de_v 0)) (da_cons ((de_v 4)) da_nil)))))) dss_nil)
    (dss_one (ds_frz 2 (ds_ret (dm_val ((de_tuple T.z_tuple (DN.de ((dn_sset hu T.z_sorted T.z_set ((de_v 2))))))))))))))
theorem S51 : FnScope ["_law_one_so", "_law_two_so"] [] (defScope s51) := ⟨rfl, rfl, rfl, by decide +kernel, rfl, by decide +kernel, by decide +kernel⟩
theorem h51 (T : Tp P w K mg base C k r) (f : Addr) (cdv : Value) (A : Around) (outer : List Env) (s : Shared) (H : Hp) (E : XK) (L : List Addr) (H0 G0 : Hp) (hr : Room k (A.deeper (envOfC "_law_three" (defScope s51) s.heap.objs.size f cdv))) :
    DSs (cxOf (L2.CX P w) P w K mg base ["_law_one_so", "_law_two_so"] "_law_three" (defScope s51) f cdv A outer s H E) ⟨K, L, H0, G0, C⟩ (fun cls d _ H => E cls d H) (defBody s51) (b51 r) := by
  have hN : (cxOf (L2.CX P w) P w K mg base ["_law_one_so", "_law_two_so"] "_law_three" (defScope s51) f cdv A outer s H E).N.Nodup := S51.nd
  exact (dss_cons (ds_asg ((de_tup (da_cons ((de_tup (da_cons (de_str) da_nil))) (da_cons ((de_tup (da_cons (de_str) da_nil))) da_nil)))) (dg_tup rfl (dgs_cons (dg_name 0 hN) (dgs_cons (dg_name 1 hN) dgs_nil))))
    (dss_one (ds_ret (dm_val ((de_tup (da_cons ((de_tup (da_cons (de_str) (da_cons ((de_tup da_nil)) (da_cons ((de_v 0)) (da_cons ((de_v 1)) da_nil)))))) (da_cons ((de_tup (da_cons (de_str) (da_cons ((de_v 0)) (da_cons ((de_v 1)) (da_cons ((de_tup da_nil)) da_nil)))))) (da_cons ((de_tup (da_cons (de_str) (da_cons ((de_v 1)) (da_cons ((de_tup da_nil)) (da_cons ((de_v 0)) da_nil)))))) da_nil)))))))))
theorem S52 : FnScope ["_law_page_so", "_law_found", "_law_own", "_law_bit"] ["_law_page_so"] (defScope s52) := ⟨rfl, rfl, rfl, by decide +kernel, rfl, by decide +kernel, by decide +kernel⟩
theorem h52 (T : Tp P w K mg base C k r) (f : Addr) (cdv : Value) (A : Around) (outer : List Env) (s : Shared) (H : Hp) (E : XK) (L : List Addr) (H0 G0 : Hp) (hr : Room k (A.deeper (envOfC "_law_signs_of" (defScope s52) s.heap.objs.size f cdv))) :
    DSs (cxOf (L2.CX P w) P w K mg base ["_law_page_so", "_law_found", "_law_own", "_law_bit"] "_law_signs_of" (defScope s52) f cdv A outer s H E) ⟨K, L, H0, G0, C⟩ (fun cls d _ H => E cls d H) (defBody s52) (b52 r) := by
  have hN : (cxOf (L2.CX P w) P w K mg base ["_law_page_so", "_law_found", "_law_own", "_law_bit"] "_law_signs_of" (defScope s52) f cdv A outer s H E).N.Nodup := S52.nd
  have hu : (A.deeper (envOfC "_law_signs_of" (defScope s52) s.heap.objs.size f cdv)).units + 64 < cLine := hr.units
  have tX : Takes (cxOf (L2.CX P w) P w K mg base ["_law_page_so", "_law_found", "_law_own", "_law_bit"] "_law_signs_of" (defScope s52) f cdv A outer s H E) (fun cls d _ H => E cls d H) := takes_of rfl rfl rfl rfl
  have hp := passes_of (X := cxOf (L2.CX P w) P w K mg base ["_law_page_so", "_law_found", "_law_own", "_law_bit"] "_law_signs_of" (defScope s52) f cdv A outer s H E) rfl
  exact (dss_cons (ds_setLc (i := 1) false rfl hN (by rfl) (di_c (di_any ((de_v 0)))) (blkOk_by (own := [("_law_own", 2)]) (by rfl)) (fun _ _ _ _ _ => (dg_name 2 hN)) (fun _ _ _ _ _ => dts_nil) (fun _ _ _ _ _ => (de_tup (da_cons ((de_at ((de_v 2)) (de_int))) (da_cons ((de_sub ((de_len T.z_len ((de_v 2)))) (de_int))) da_nil)))))
    (dss_cons (ds_for hp rfl (di_any (DN.de ((dn_cal T.c46 hr tX (da_cons ((de_v 0)) da_nil))))) (dg_name 3 hN) (dss_one (ds_append 1 ((de_tup (da_cons ((de_at ((de_v 3)) (de_int))) (da_cons ((de_sub ((de_len T.z_len ((de_v 3)))) (de_int))) da_nil)))))))
    (dss_one (ds_frz 1 (ds_ret (dm_own ((dn_cat (DN.de ((dn_cat (DN.de ((dn_sset hu T.z_sorted T.z_set ((de_v 1))))) (DN.de ((dn_sset hu T.z_sorted T.z_set (DN.de ((dn_lc rfl hN (di_c (di_any ((de_v 0)))) (blkOk_by (own := [("_law_own", 2)]) (by rfl)) (fun _ _ _ _ _ => (dg_name 2 hN)) (fun _ _ _ _ _ => dts_nil) (fun _ _ _ _ _ => (de_tup (da_cons ((de_at ((de_v 2)) (de_int))) (da_cons ((de_sub ((de_len T.z_len ((de_v 2)))) (de_int))) da_nil))))))))))))) (DN.de ((dn_lst (da_cons ((de_tup (da_cons (de_str) (da_cons (de_int) da_nil)))) (da_cons ((de_tup (da_cons (de_str) (da_cons (de_int) da_nil)))) da_nil)))))))))))))
theorem S53 : FnScope ["_law_tin", "_law_page_so", "_law_deep_so", "_law_leaf_here", "_law_spots_so", "_law_spot_so", "_law_near_so"] ["_law_tin", "_law_page_so", "_law_deep_so"] (defScope s53) := ⟨rfl, rfl, rfl, by decide +kernel, rfl, by decide +kernel, by decide +kernel⟩
theorem h53 (T : Tp P w K mg base C k r) (f : Addr) (cdv : Value) (A : Around) (outer : List Env) (s : Shared) (H : Hp) (E : XK) (L : List Addr) (H0 G0 : Hp) (hr : Room k (A.deeper (envOfC "_law_near" (defScope s53) s.heap.objs.size f cdv))) :
    DSs (cxOf (L2.CX P w) P w K mg base ["_law_tin", "_law_page_so", "_law_deep_so", "_law_leaf_here", "_law_spots_so", "_law_spot_so", "_law_near_so"] "_law_near" (defScope s53) f cdv A outer s H E) ⟨K, L, H0, G0, C⟩ (fun cls d _ H => E cls d H) (defBody s53) (b53 r) := by
  have hN : (cxOf (L2.CX P w) P w K mg base ["_law_tin", "_law_page_so", "_law_deep_so", "_law_leaf_here", "_law_spots_so", "_law_spot_so", "_law_near_so"] "_law_near" (defScope s53) f cdv A outer s H E).N.Nodup := S53.nd
  have hu : (A.deeper (envOfC "_law_near" (defScope s53) s.heap.objs.size f cdv)).units + 64 < cLine := hr.units
  have tX : Takes (cxOf (L2.CX P w) P w K mg base ["_law_tin", "_law_page_so", "_law_deep_so", "_law_leaf_here", "_law_spots_so", "_law_spot_so", "_law_near_so"] "_law_near" (defScope s53) f cdv A outer s H E) (fun cls d _ H => E cls d H) := takes_of rfl rfl rfl rfl
  have hp := passes_of (X := cxOf (L2.CX P w) P w K mg base ["_law_tin", "_law_page_so", "_law_deep_so", "_law_leaf_here", "_law_spots_so", "_law_spot_so", "_law_near_so"] "_law_near" (defScope s53) f cdv A outer s H E) rfl
  exact (dss_cons (ds_set (i := 3) hN (dm_val ((de_cal T.c14 hr tX (da_cons ((de_v 0)) (da_cons ((de_v 1)) da_nil))))))
    (dss_cons (ds_set (i := 4) hN (dm_val ((de_cal T.c18 hr tX (da_cons ((de_v 3)) da_nil)))))
    (dss_cons (ds_for hp rfl (di_any (DN.de ((dn_cal T.c15 hr tX (da_cons ((de_v 0)) (da_cons (DN.de ((dn_slice ((de_v 4)) (do_some (de_int)) do_none))) (da_cons (de_int) da_nil))))))) (dg_name 5 hN) (dss_one (ds_if ((dt_in hu ((de_v 5)) ((de_cal T.c18 hr tX (da_cons ((de_v 3)) da_nil))))) (dss_cons (ds_set (i := 6) hN (dm_val ((de_if ((dt_gt ((de_v 2)) (de_int))) ((de_cal T.c53 hr tX (da_cons ((de_v 0)) (da_cons ((de_v 1)) (da_cons ((de_sub ((de_v 2)) (de_int))) da_nil))))) ((de_tup da_nil))))))
    (dss_one (ds_set (i := 3) hN (dm_val ((de_cal T.c20 hr tX (da_cons ((de_v 3)) (da_cons ((de_v 5)) (da_cons ((de_cal T.c14 hr tX (da_cons ((de_v 0)) (da_cons (DN.de ((dn_lst (da_cons ((de_tup da_nil)) (da_cons ((de_tup da_nil)) (da_cons ((de_v 6)) (da_cons ((de_v 6)) (da_cons ((de_tup (da_cons (de_str) da_nil))) (da_cons ((de_tup (da_cons (de_str) da_nil))) da_nil))))))))) da_nil)))) da_nil))))))))) dss_nil)))
    (dss_one (ds_ret (dm_val ((de_v 3))))))))
theorem S54 : FnScope ["_law_page_so", "_law_leaf_here", "_law_found", "_law_k", "_law_own"] ["_law_page_so", "_law_leaf_here"] (defScope s54) := ⟨rfl, rfl, rfl, by decide +kernel, rfl, by decide +kernel, by decide +kernel⟩
theorem h54 (T : Tp P w K mg base C k r) (f : Addr) (cdv : Value) (A : Around) (outer : List Env) (s : Shared) (H : Hp) (E : XK) (L : List Addr) (H0 G0 : Hp) (hr : Room k (A.deeper (envOfC "_law_first" (defScope s54) s.heap.objs.size f cdv))) :
    DSs (cxOf (L2.CX P w) P w K mg base ["_law_page_so", "_law_leaf_here", "_law_found", "_law_k", "_law_own"] "_law_first" (defScope s54) f cdv A outer s H E) ⟨K, L, H0, G0, C⟩ (fun cls d _ H => E cls d H) (defBody s54) (b54 r) := by
  have hN : (cxOf (L2.CX P w) P w K mg base ["_law_page_so", "_law_leaf_here", "_law_found", "_law_k", "_law_own"] "_law_first" (defScope s54) f cdv A outer s H E).N.Nodup := S54.nd
  have hu : (A.deeper (envOfC "_law_first" (defScope s54) s.heap.objs.size f cdv)).units + 64 < cLine := hr.units
  exact (dss_cons (ds_setLc (i := 2) true rfl hN (by rfl) (di_c (di_en T.z_enumerate ((de_v 0)))) (blkOk_by (own := [("_law_k", 3), ("_law_own", 4)]) (by rfl)) (fun _ _ _ _ _ => (dg_tup rfl (dgs_cons (dg_name 3 hN) (dgs_cons (dg_name 4 hN) dgs_nil)))) (fun _ _ _ _ _ => (dts_one ((dt_w (dw_and ((dt_ne hu ((de_v 1)) ((de_tup da_nil)))) (dw_and1 ((dt_truth ((de_cal T.c45 hr tk0 (da_cons ((de_v 4)) (da_cons ((de_v 1)) da_nil)))))))))))) (fun _ _ _ _ _ => (de_v 3)))
    (dss_one (ds_ret (dm_val ((de_if ((dt_ne hu ((de_v 2)) (DN.de ((dn_lst da_nil))))) ((de_at ((de_v 2)) (de_int))) (de_non)))))))
theorem S55 : FnScope ["_law_page_so", "_law_leaf_here", "_law_spot_so", "_law_told_so", "_law_bits_so", "_law_k", "_law_bit", "_law_left_so", "_law_first_so"] ["_law_page_so", "_law_leaf_here", "_law_spot_so", "_law_told_so"] (defScope s55) := ⟨rfl, rfl, rfl, by decide +kernel, rfl, by decide +kernel, by decide +kernel⟩
theorem h55 (T : Tp P w K mg base C k r) (f : Addr) (cdv : Value) (A : Around) (outer : List Env) (s : Shared) (H : Hp) (E : XK) (L : List Addr) (H0 G0 : Hp) (hr : Room k (A.deeper (envOfC "_law_below" (defScope s55) s.heap.objs.size f cdv))) :
    DSs (cxOf (L2.CX P w) P w K mg base ["_law_page_so", "_law_leaf_here", "_law_spot_so", "_law_told_so", "_law_bits_so", "_law_k", "_law_bit", "_law_left_so", "_law_first_so"] "_law_below" (defScope s55) f cdv A outer s H E) ⟨K, L, H0, G0, C⟩ (fun cls d _ H => E cls d H) (defBody s55) (b55 r) := by
  have hN : (cxOf (L2.CX P w) P w K mg base ["_law_page_so", "_law_leaf_here", "_law_spot_so", "_law_told_so", "_law_bits_so", "_law_k", "_law_bit", "_law_left_so", "_law_first_so"] "_law_below" (defScope s55) f cdv A outer s H E).N.Nodup := S55.nd
  have hu : (A.deeper (envOfC "_law_below" (defScope s55) s.heap.objs.size f cdv)).units + 64 < cLine := hr.units
  have tX : Takes (cxOf (L2.CX P w) P w K mg base ["_law_page_so", "_law_leaf_here", "_law_spot_so", "_law_told_so", "_law_bits_so", "_law_k", "_law_bit", "_law_left_so", "_law_first_so"] "_law_below" (defScope s55) f cdv A outer s H E) (fun cls d _ H => E cls d H) := takes_of rfl rfl rfl rfl
  exact (dss_cons (ds_if ((dt_eq hu ((de_v 1)) ((de_tup da_nil)))) (dss_one (ds_ret (dm_val ((de_tup da_nil))))) dss_nil)
    (dss_cons (ds_setLc (i := 4) true rfl hN (by rfl) (di_c (di_en T.z_enumerate ((de_slice ((de_v 1)) (do_some (de_int)) do_none)))) (blkOk_by (own := [("_law_k", 5), ("_law_bit", 6)]) (by rfl)) (fun _ _ _ _ _ => (dg_tup rfl (dgs_cons (dg_name 5 hN) (dgs_cons (dg_name 6 hN) dgs_nil)))) (fun _ _ _ _ _ => dts_nil) (fun _ _ _ _ _ => (de_cal T.c55 hr tk0 (da_cons ((de_v 0)) (da_cons ((de_v 6)) (da_cons ((de_add ((de_v 2)) ((de_tup (da_cons ((de_v 5)) da_nil))))) (da_cons ((de_v 3)) da_nil)))))))
    (dss_cons (ds_set (i := 7) hN (dm_val ((de_add ((de_slice ((de_v 1)) do_none (do_some (de_int)))) ((de_tuple T.z_tuple ((de_v 4))))))))
    (dss_cons (ds_set (i := 8) hN (dm_val ((de_cal T.c54 hr tX (da_cons ((de_v 0)) (da_cons ((de_v 7)) da_nil))))))
    (dss_cons (ds_if ((dt_isN ((de_v 8)) (de_non))) (dss_one (ds_ret (dm_val ((de_v 7))))) dss_nil)
    (dss_cons (ds_append 3 ((de_tup (da_cons ((de_v 2)) (da_cons ((de_v 8)) da_nil)))))
    (dss_one (ds_ret (dm_val ((de_tup da_nil)))))))))))
theorem S56 : FnScope ["_law_page_so", "_law_leaf_here", "_law_told_so", "_law_soft", "_law_stands_so", "_law_got", "_law_due", "_law_spot_so", "_law_bit"] ["_law_page_so", "_law_leaf_here"] (defScope s56) := ⟨rfl, rfl, rfl, by decide +kernel, rfl, by decide +kernel, by decide +kernel⟩
theorem h56 (T : Tp P w K mg base C k r) (f : Addr) (cdv : Value) (A : Around) (outer : List Env) (s : Shared) (H : Hp) (E : XK) (L : List Addr) (H0 G0 : Hp) (hr : Room k (A.deeper (envOfC "_law_case_right" (defScope s56) s.heap.objs.size f cdv))) :
    DSs (cxOf (L2.CX P w) P w K mg base ["_law_page_so", "_law_leaf_here", "_law_told_so", "_law_soft", "_law_stands_so", "_law_got", "_law_due", "_law_spot_so", "_law_bit"] "_law_case_right" (defScope s56) f cdv A outer s H E) ⟨K, L, H0, G0, C⟩ (fun cls d _ H => E cls d H) (defBody s56) (b56 r) := by
  have hN : (cxOf (L2.CX P w) P w K mg base ["_law_page_so", "_law_leaf_here", "_law_told_so", "_law_soft", "_law_stands_so", "_law_got", "_law_due", "_law_spot_so", "_law_bit"] "_law_case_right" (defScope s56) f cdv A outer s H E).N.Nodup := S56.nd
  have hu : (A.deeper (envOfC "_law_case_right" (defScope s56) s.heap.objs.size f cdv)).units + 64 < cLine := hr.units
  have tX : Takes (cxOf (L2.CX P w) P w K mg base ["_law_page_so", "_law_leaf_here", "_law_told_so", "_law_soft", "_law_stands_so", "_law_got", "_law_due", "_law_spot_so", "_law_bit"] "_law_case_right" (defScope s56) f cdv A outer s H E) (fun cls d _ H => E cls d H) := takes_of rfl rfl rfl rfl
  have hp := passes_of (X := cxOf (L2.CX P w) P w K mg base ["_law_page_so", "_law_leaf_here", "_law_told_so", "_law_soft", "_law_stands_so", "_law_got", "_law_due", "_law_spot_so", "_law_bit"] "_law_case_right" (defScope s56) f cdv A outer s H E) rfl
  exact (dss_cons (ds_par (i := 2) (j := 3) rfl hN (dm_own ((dn_lst da_nil))) (dm_val ((de_cal T.c16 hr tX (da_cons ((de_v 1)) da_nil)))))
    (dss_shr 2 (fun _ => (dss_cons (ds_set (i := 4) hN (dm_val ((de_cal T.c48 hr tX (da_cons ((de_v 0)) (da_cons ((de_v 1)) da_nil))))))
    (dss_cons (ds_if ((dt_not ((dt_truth ((de_cal T.c17 hr tX (da_cons ((de_cal T.c55 hr tX (da_cons ((de_v 0)) (da_cons ((de_v 1)) (da_cons ((de_tup da_nil)) (da_cons ((de_v 2)) da_nil)))))) (da_cons ((de_v 4)) da_nil)))))))) (dss_one (ds_ret (dm_val (de_bl)))) dss_nil)
    (dss_cons (ds_set (i := 5) hN (dm_own ((dn_lst (da_cons ((de_cal T.c41 hr tX (da_cons ((de_v 0)) (da_cons ((de_v 1)) da_nil)))) (da_cons ((de_cal T.c41 hr tX (da_cons ((de_cal T.c16 hr tX (da_cons ((de_v 0)) da_nil))) (da_cons ((de_v 3)) da_nil)))) (da_cons ((de_calK0 T.k41_1_0_0 hr (dk_cons ((de_v 1)) (dk_cons ((de_v 0)) dk_nil)))) da_nil)))))))
    (dss_cons (ds_set (i := 5) hN (dm_own ((dn_cat ((de_v 5)) (DN.de ((dn_lst (da_cons ((de_cal T.c43 hr tX (da_cons ((de_v 0)) (da_cons ((de_v 1)) da_nil)))) (da_cons ((de_cal T.c43 hr tX (da_cons ((de_cal T.c16 hr tX (da_cons ((de_v 0)) da_nil))) (da_cons ((de_v 3)) da_nil)))) (da_cons ((de_cal T.c42 hr tX (da_cons ((de_v 0)) (da_cons ((de_v 1)) da_nil)))) da_nil))))))))))
    (dss_cons (ds_set (i := 6) hN (dm_own ((dn_cat (DN.de ((dn_rep (DN.de ((dn_lst (da_cons ((de_v 4)) da_nil)))) (de_int)))) (DN.de ((dn_lst (da_cons ((de_tuple T.z_tuple ((de_v 2)))) (da_cons ((de_tuple T.z_tuple ((de_v 2)))) (da_cons ((de_eq hu ((de_v 4)) ((de_tup da_nil)))) da_nil))))))))))
    (dss_cons (ds_for hp rfl (di_any ((de_cal T.c18 hr tX (da_cons ((de_v 1)) da_nil)))) (dg_name 7 hN) (dss_cons (ds_set (i := 8) hN (dm_val ((de_cal T.c19 hr tX (da_cons ((de_v 1)) (da_cons ((de_v 7)) da_nil))))))
    (dss_cons (ds_append 5 ((de_cal T.c40 hr tX (da_cons ((de_v 0)) (da_cons ((de_v 8)) da_nil)))))
    (dss_one (ds_append 6 ((de_cal T.c54 hr tX (da_cons ((de_v 0)) (da_cons ((de_v 8)) da_nil)))))))))
    (dss_one (ds_ret (dm_val ((de_cal T.c17 hr tX (da_cons (DN.de ((dn_cat ((de_v 5)) (DN.de ((dn_lst (da_cons ((de_v 3)) da_nil))))))) (da_cons (DN.de ((dn_cat ((de_v 6)) (DN.de ((dn_lst (da_cons ((de_cal T.c16 hr tX (da_cons ((de_v 1)) da_nil))) da_nil))))))) da_nil))))))))))))))))
theorem S57 : FnScope ["_law_one_so", "_law_two_so", "_law_three_so", "_law_wide_so", "_law_chain_so", "_law_reach_so", "_law_got", "_law_due", "_law_soft", "_law_ahead_so"] [] (defScope s57) := ⟨rfl, rfl, rfl, by decide +kernel, rfl, by decide +kernel, by decide +kernel⟩
theorem h57 (T : Tp P w K mg base C k r) (f : Addr) (cdv : Value) (A : Around) (outer : List Env) (s : Shared) (H : Hp) (E : XK) (L : List Addr) (H0 G0 : Hp) (hr : Room k (A.deeper (envOfC "_law_by_hand_right" (defScope s57) s.heap.objs.size f cdv))) :
    DSs (cxOf (L2.CX P w) P w K mg base ["_law_one_so", "_law_two_so", "_law_three_so", "_law_wide_so", "_law_chain_so", "_law_reach_so", "_law_got", "_law_due", "_law_soft", "_law_ahead_so"] "_law_by_hand_right" (defScope s57) f cdv A outer s H E) ⟨K, L, H0, G0, C⟩ (fun cls d _ H => E cls d H) (defBody s57) (b57 r) := by
  have hN : (cxOf (L2.CX P w) P w K mg base ["_law_one_so", "_law_two_so", "_law_three_so", "_law_wide_so", "_law_chain_so", "_law_reach_so", "_law_got", "_law_due", "_law_soft", "_law_ahead_so"] "_law_by_hand_right" (defScope s57) f cdv A outer s H E).N.Nodup := S57.nd
  have tX : Takes (cxOf (L2.CX P w) P w K mg base ["_law_one_so", "_law_two_so", "_law_three_so", "_law_wide_so", "_law_chain_so", "_law_reach_so", "_law_got", "_law_due", "_law_soft", "_law_ahead_so"] "_law_by_hand_right" (defScope s57) f cdv A outer s H E) (fun cls d _ H => E cls d H) := takes_of rfl rfl rfl rfl
  exact (dss_cons (ds_par3 (i := 0) (j := 1) (l := 2) rfl hN (dm_val ((de_tup (da_cons (de_str) da_nil)))) (dm_val ((de_tup (da_cons (de_str) da_nil)))) (dm_val ((de_cal0 T.c51 hr))))
    (dss_cons (ds_set (i := 3) hN (dm_val ((de_tup (da_cons (de_str) (da_cons ((de_v 1)) (da_cons ((de_v 1)) (da_cons ((de_tup (da_cons (de_str) (da_cons ((de_tup (da_cons (de_str) (da_cons ((de_tup da_nil)) (da_cons ((de_tup da_nil)) (da_cons ((de_tup da_nil)) da_nil)))))) da_nil)))) da_nil))))))))
    (dss_cons (ds_par (i := 4) (j := 5) rfl hN (dm_val ((de_tup (da_cons ((de_tup (da_cons (de_str) (da_cons ((de_tup (da_cons (de_str) da_nil))) da_nil)))) (da_cons ((de_tup (da_cons (de_str) (da_cons ((de_tup da_nil)) da_nil)))) da_nil))))) (dm_val ((de_tup (da_cons ((de_tup (da_cons (de_str) (da_cons ((de_tup (da_cons (de_str) (da_cons ((de_tup da_nil)) da_nil)))) (da_cons ((de_v 0)) da_nil))))) da_nil)))))
    (dss_cons (ds_set (i := 6) hN (dm_own ((dn_lst (da_cons ((de_cal T.c41 hr tX (da_cons ((de_v 2)) (da_cons ((de_v 3)) da_nil)))) (da_cons ((de_cal T.c43 hr tX (da_cons ((de_v 2)) (da_cons ((de_v 3)) da_nil)))) (da_cons ((de_cal T.c40 hr tX (da_cons ((de_v 2)) (da_cons ((de_v 3)) da_nil)))) da_nil)))))))
    (dss_cons (ds_set (i := 7) hN (dm_val (DN.de ((dn_lst (da_cons ((de_tup (da_cons (de_str) (da_cons ((de_v 1)) (da_cons ((de_v 1)) (da_cons ((de_tup (da_cons (de_str) (da_cons ((de_tup da_nil)) da_nil)))) da_nil)))))) (da_cons ((de_tup (da_cons ((de_tup (da_cons ((de_tup (da_cons (de_int) (da_cons (de_int) da_nil)))) (da_cons (de_int) da_nil)))) da_nil))) (da_cons (de_non) da_nil))))))))
    (dss_cons (ds_set (i := 6) hN (dm_own ((dn_cat ((de_v 6)) (DN.de ((dn_lst (da_cons ((de_cal T.c41 hr tX (da_cons ((de_v 2)) (da_cons ((de_tup (da_cons (de_str) (da_cons ((de_tup (da_cons (de_str) (da_cons ((de_tup da_nil)) (da_cons ((de_tup da_nil)) (da_cons ((de_tup da_nil)) da_nil)))))) (da_cons ((de_v 0)) (da_cons ((de_v 1)) da_nil)))))) da_nil)))) (da_cons ((de_cal T.c40 hr tX (da_cons ((de_v 2)) (da_cons ((de_tup (da_cons (de_str) (da_cons ((de_tup da_nil)) (da_cons ((de_v 0)) (da_cons ((de_tup da_nil)) da_nil)))))) da_nil)))) da_nil)))))))))
    (dss_cons (ds_set (i := 7) hN (dm_val (DN.de ((dn_cat ((de_v 7)) (DN.de ((dn_lst (da_cons ((de_tup da_nil)) (da_cons (de_int) da_nil))))))))))
    (dss_cons (ds_set (i := 6) hN (dm_own ((dn_cat ((de_v 6)) (DN.de ((dn_lst (da_cons ((de_cal T.c43 hr tX (da_cons ((de_v 2)) (da_cons ((de_tup (da_cons (de_str) (da_cons ((de_v 0)) (da_cons ((de_tup da_nil)) (da_cons ((de_tup (da_cons (de_str) (da_cons ((de_v 0)) (da_cons ((de_v 0)) (da_cons ((de_tup da_nil)) da_nil)))))) da_nil)))))) da_nil)))) (da_cons ((de_cal T.c40 hr tX (da_cons ((de_v 2)) (da_cons ((de_tup da_nil)) da_nil)))) da_nil)))))))))
    (dss_cons (ds_set (i := 7) hN (dm_val (DN.de ((dn_cat ((de_v 7)) (DN.de ((dn_lst (da_cons ((de_tup (da_cons ((de_tup (da_cons ((de_tup (da_cons (de_int) da_nil))) (da_cons (de_int) da_nil)))) (da_cons ((de_tup (da_cons ((de_tup da_nil)) (da_cons (de_int) da_nil)))) da_nil)))) (da_cons (de_non) da_nil))))))))))
    (dss_cons (ds_set (i := 6) hN (dm_own ((dn_cat ((de_v 6)) (DN.de ((dn_lst (da_cons ((de_cal T.c43 hr tX (da_cons ((de_v 2)) (da_cons ((de_tup (da_cons (de_str) (da_cons ((de_v 0)) (da_cons ((de_v 0)) (da_cons ((de_tup (da_cons (de_str) (da_cons ((de_v 0)) (da_cons ((de_v 0)) (da_cons ((de_v 0)) da_nil)))))) da_nil)))))) da_nil)))) da_nil))))))))
    (dss_cons (ds_set (i := 7) hN (dm_val (DN.de ((dn_cat ((de_v 7)) (DN.de ((dn_lst (da_cons ((de_tup da_nil)) da_nil)))))))))
    (dss_cons (ds_set (i := 6) hN (dm_own ((dn_cat ((de_v 6)) (DN.de ((dn_lst (da_cons ((de_cal T.c41 hr tX (da_cons ((de_v 2)) (da_cons ((de_tup (da_cons (de_str) (da_cons ((de_v 1)) (da_cons ((de_v 0)) (da_cons ((de_tup da_nil)) da_nil)))))) da_nil)))) da_nil))))))))
    (dss_cons (ds_append 6 ((de_cal T.c43 hr tX (da_cons ((de_v 2)) (da_cons ((de_tup (da_cons (de_str) (da_cons ((de_v 0)) (da_cons ((de_v 1)) (da_cons ((de_tup (da_cons (de_str) da_nil))) da_nil)))))) da_nil)))))
    (dss_cons (ds_set (i := 7) hN (dm_val (DN.de ((dn_cat ((de_v 7)) (DN.de ((dn_lst (da_cons ((de_tup da_nil)) (da_cons ((de_tup (da_cons ((de_tup (da_cons ((de_tup da_nil)) (da_cons (de_int) da_nil)))) da_nil))) da_nil))))))))))
    (dss_cons (ds_set (i := 6) hN (dm_own ((dn_cat ((de_v 6)) (DN.de ((dn_lst (da_cons ((de_cal T.c43 hr tX (da_cons ((de_v 4)) (da_cons ((de_tup (da_cons (de_str) (da_cons ((de_tup (da_cons (de_str) (da_cons ((de_tup (da_cons (de_str) da_nil))) da_nil)))) da_nil)))) da_nil)))) (da_cons ((de_cal T.c40 hr tX (da_cons ((de_v 4)) (da_cons ((de_tup (da_cons (de_str) (da_cons ((de_tup (da_cons (de_str) (da_cons ((de_tup (da_cons (de_str) da_nil))) da_nil)))) da_nil)))) da_nil)))) da_nil)))))))))
    (dss_cons (ds_set (i := 7) hN (dm_val (DN.de ((dn_cat ((de_v 7)) (DN.de ((dn_lst (da_cons ((de_tup (da_cons ((de_tup (da_cons ((de_tup (da_cons (de_int) da_nil))) (da_cons (de_int) da_nil)))) (da_cons ((de_tup (da_cons ((de_tup da_nil)) (da_cons (de_int) da_nil)))) da_nil)))) (da_cons (de_non) da_nil))))))))))
    (dss_cons (ds_set (i := 6) hN (dm_own ((dn_cat ((de_v 6)) (DN.de ((dn_lst (da_cons ((de_cal T.c41 hr tX (da_cons ((de_v 4)) (da_cons ((de_tup (da_cons (de_str) (da_cons ((de_v 0)) da_nil)))) da_nil)))) (da_cons ((de_cal T.c41 hr tX (da_cons ((de_v 4)) (da_cons ((de_tup (da_cons (de_str) (da_cons ((de_tup da_nil)) da_nil)))) da_nil)))) (da_cons ((de_cal T.c41 hr tX (da_cons ((de_v 4)) (da_cons ((de_tup (da_cons (de_str) (da_cons ((de_v 0)) (da_cons ((de_tup (da_cons (de_str) (da_cons ((de_v 1)) da_nil)))) da_nil))))) da_nil)))) da_nil))))))))))
    (dss_cons (ds_set (i := 7) hN (dm_val (DN.de ((dn_cat ((de_v 7)) (DN.de ((dn_lst (da_cons ((de_tup (da_cons (de_str) (da_cons ((de_v 0)) da_nil)))) (da_cons ((de_tup da_nil)) (da_cons ((de_tup (da_cons (de_str) (da_cons ((de_v 0)) (da_cons ((de_tup da_nil)) da_nil))))) da_nil)))))))))))
    (dss_cons (ds_set (i := 6) hN (dm_own ((dn_cat ((de_v 6)) (DN.de ((dn_lst (da_cons ((de_cal T.c41 hr tX (da_cons ((de_v 5)) (da_cons ((de_tup (da_cons (de_str) (da_cons ((de_tup (da_cons (de_str) (da_cons ((de_tup (da_cons (de_str) da_nil))) da_nil)))) (da_cons ((de_tup da_nil)) da_nil))))) da_nil)))) (da_cons ((de_cal T.c41 hr tX (da_cons ((de_v 5)) (da_cons ((de_tup (da_cons (de_str) (da_cons ((de_tup (da_cons (de_str) (da_cons ((de_tup (da_cons (de_str) da_nil))) da_nil)))) (da_cons ((de_v 1)) da_nil))))) da_nil)))) da_nil)))))))))
    (dss_cons (ds_set (i := 7) hN (dm_val (DN.de ((dn_cat ((de_v 7)) (DN.de ((dn_lst (da_cons ((de_tup da_nil)) (da_cons ((de_tup (da_cons (de_str) (da_cons ((de_tup (da_cons (de_str) (da_cons ((de_tup (da_cons (de_str) da_nil))) da_nil)))) (da_cons ((de_v 1)) da_nil))))) da_nil))))))))))
    (dss_cons (ds_set (i := 6) hN (dm_own ((dn_cat ((de_v 6)) (DN.de ((dn_lst (da_cons ((de_cal T.c41 hr tX (da_cons ((de_tup da_nil)) (da_cons ((de_v 3)) da_nil)))) (da_cons ((de_cal T.c43 hr tX (da_cons ((de_tup da_nil)) (da_cons ((de_v 3)) da_nil)))) (da_cons ((de_cal T.c41 hr tX (da_cons ((de_tup (da_cons ((de_v 0)) da_nil))) (da_cons ((de_v 0)) da_nil)))) (da_cons ((de_cal T.c41 hr tX (da_cons ((de_tup (da_cons ((de_v 0)) da_nil))) (da_cons ((de_tup (da_cons (de_str) (da_cons ((de_v 0)) da_nil)))) da_nil)))) da_nil)))))))))))
    (dss_cons (ds_set (i := 7) hN (dm_val (DN.de ((dn_cat ((de_v 7)) (DN.de ((dn_lst (da_cons ((de_v 3)) (da_cons ((de_tup da_nil)) (da_cons ((de_tup da_nil)) (da_cons ((de_tup (da_cons (de_str) (da_cons ((de_tup da_nil)) da_nil)))) da_nil))))))))))))
    (dss_cons (ds_set (i := 6) hN (dm_own ((dn_cat ((de_v 6)) (DN.de ((dn_lst (da_cons ((de_cal T.c41 hr tX (da_cons ((de_v 2)) (da_cons ((de_tup da_nil)) da_nil)))) (da_cons ((de_cal T.c42 hr tX (da_cons ((de_v 2)) (da_cons ((de_tup da_nil)) da_nil)))) (da_cons ((de_cal T.c42 hr tX (da_cons ((de_tup da_nil)) (da_cons ((de_v 0)) da_nil)))) (da_cons ((de_cal T.c43 hr tX (da_cons ((de_v 2)) (da_cons ((de_tup da_nil)) da_nil)))) da_nil)))))))))))
    (dss_cons (ds_set (i := 7) hN (dm_val (DN.de ((dn_cat ((de_v 7)) (DN.de ((dn_lst (da_cons ((de_tup da_nil)) (da_cons (de_bl) (da_cons (de_bl) (da_cons ((de_tup da_nil)) da_nil))))))))))))
    (dss_cons (ds_set (i := 6) hN (dm_own ((dn_cat ((de_v 6)) (DN.de ((dn_lst (da_cons ((de_calK0 T.k40_1_0_0 hr (dk_cons (DN.de ((dn_lst (da_cons (de_str) da_nil)))) (dk_cons (DN.de ((dn_lst (da_cons (DN.de ((dn_lst (da_cons (de_str) da_nil)))) da_nil)))) dk_nil)))) (da_cons ((de_calK0 T.k41_0_1_0 hr (dk_cons ((de_tup (da_cons ((de_tup (da_cons (de_str) (da_cons ((de_tup da_nil)) da_nil)))) da_nil))) (dk_cons (DN.de ((dn_lst (da_cons (de_str) (da_cons (DN.de ((dn_lst (da_cons (de_str) (da_cons (DN.de ((dn_lst da_nil))) (da_cons (DN.de ((dn_lst da_nil))) da_nil)))))) da_nil))))) dk_nil)))) da_nil)))))))))
    (dss_cons (ds_set (i := 6) hN (dm_own ((dn_cat ((de_v 6)) (DN.de ((dn_lst (da_cons ((de_calK0 T.k43_1_0_0 hr (dk_cons (DN.de ((dn_lst (da_cons (de_str) (da_cons (DN.de ((dn_lst (da_cons (de_str) da_nil)))) da_nil))))) (dk_cons (DN.de ((dn_lst (da_cons (DN.de ((dn_lst (da_cons (de_str) da_nil)))) da_nil)))) dk_nil)))) (da_cons ((de_calK0 T.k42_1_0_0 hr (dk_cons (DN.de ((dn_lst (da_cons (de_str) (da_cons (DN.de ((dn_lst (da_cons (de_str) da_nil)))) da_nil))))) (dk_cons (DN.de ((dn_lst (da_cons (DN.de ((dn_lst (da_cons (de_str) da_nil)))) da_nil)))) dk_nil)))) da_nil)))))))))
    (dss_cons (ds_set (i := 7) hN (dm_val (DN.de ((dn_cat ((de_v 7)) (DN.de ((dn_lst (da_cons (de_int) (da_cons ((de_tup da_nil)) (da_cons ((de_tup (da_cons ((de_tup (da_cons ((de_tup (da_cons (de_int) da_nil))) (da_cons (de_int) da_nil)))) da_nil))) (da_cons (de_bl) da_nil))))))))))))
    (dss_cons (ds_frz 6 (ds_if ((dt_not ((dt_truth ((de_cal T.c17 hr tX (da_cons ((de_v 6)) (da_cons ((de_v 7)) da_nil)))))))) (dss_one (ds_ret (dm_val (de_bl)))) dss_nil))
    (dss_cons (ds_set (i := 8) hN (dm_own ((dn_lst (da_cons (de_str) (da_cons (DN.de ((dn_lst (da_cons (de_str) da_nil)))) (da_cons (DN.de ((dn_lst (da_cons (de_str) da_nil)))) (da_cons (DN.de ((dn_lst (da_cons (de_str) (da_cons (DN.de ((dn_lst (da_cons (de_str) (da_cons (DN.de ((dn_lst da_nil))) (da_cons (DN.de ((dn_lst da_nil))) (da_cons (DN.de ((dn_lst da_nil))) da_nil))))))) da_nil))))) da_nil))))))))
    (dss_cons (ds_set (i := 9) hN (dm_val ((de_frE 8 (de_cal T.c41 hr tX (da_cons ((de_v 2)) (da_cons ((de_v 8)) da_nil)))))))
    (dss_cons (ds_setIx 8 (DN.de ((dn_lst (da_cons (de_str) da_nil)))) (de_int))
    (dss_one (ds_frz 8 (ds_ret (dm_val ((de_cal T.c17 hr tX (da_cons (DN.de ((dn_lst (da_cons ((de_v 9)) (da_cons ((de_cal T.c41 hr tX (da_cons ((de_v 2)) (da_cons ((de_v 8)) da_nil)))) da_nil))))) (da_cons (DN.de ((dn_lst (da_cons ((de_tup (da_cons (de_str) (da_cons ((de_v 1)) (da_cons ((de_v 1)) (da_cons ((de_tup (da_cons (de_str) (da_cons ((de_tup da_nil)) da_nil)))) da_nil)))))) (da_cons ((de_tup (da_cons (de_str) (da_cons ((de_v 1)) (da_cons ((de_v 0)) (da_cons ((de_tup (da_cons (de_str) (da_cons ((de_tup da_nil)) da_nil)))) da_nil)))))) da_nil))))) da_nil)))))))))))))))))))))))))))))))))))))))
theorem S58 : FnScope ["_law_tin", "_law_page_so", "_law_signs_so", "_law_leaves_so", "_law_leaf_here"] ["_law_tin"] (defScope s58) := ⟨rfl, rfl, rfl, by decide +kernel, rfl, by decide +kernel, by decide +kernel⟩
theorem h58 (T : Tp P w K mg base C k r) (f : Addr) (cdv : Value) (A : Around) (outer : List Env) (s : Shared) (H : Hp) (E : XK) (L : List Addr) (H0 G0 : Hp) (hr : Room k (A.deeper (envOfC "_law_right" (defScope s58) s.heap.objs.size f cdv))) :
    DSs (cxOf (L2.CX P w) P w K mg base ["_law_tin", "_law_page_so", "_law_signs_so", "_law_leaves_so", "_law_leaf_here"] "_law_right" (defScope s58) f cdv A outer s H E) ⟨K, L, H0, G0, C⟩ (fun cls d _ H => E cls d H) (defBody s58) (b58 r) := by
  have hN : (cxOf (L2.CX P w) P w K mg base ["_law_tin", "_law_page_so", "_law_signs_so", "_law_leaves_so", "_law_leaf_here"] "_law_right" (defScope s58) f cdv A outer s H E).N.Nodup := S58.nd
  have tX : Takes (cxOf (L2.CX P w) P w K mg base ["_law_tin", "_law_page_so", "_law_signs_so", "_law_leaves_so", "_law_leaf_here"] "_law_right" (defScope s58) f cdv A outer s H E) (fun cls d _ H => E cls d H) := takes_of rfl rfl rfl rfl
  exact (dss_cons (ds_set (i := 1) hN (dm_val ((de_cal T.c50 hr tX (da_cons ((de_v 0)) (da_cons ((de_add (de_int) ((de_cal T.c12 hr tX (da_cons ((de_v 0)) (da_cons (de_int) da_nil)))))) da_nil))))))
    (dss_cons (ds_set (i := 2) hN (dm_val (DN.de ((dn_cal T.c52 hr tX (da_cons ((de_v 1)) da_nil))))))
    (dss_cons (ds_set (i := 3) hN (dm_val (DN.de ((dn_lst (da_cons ((de_cal T.c53 hr tX (da_cons ((de_v 0)) (da_cons ((de_v 1)) (da_cons (de_int) da_nil))))) (da_cons ((de_cal T.c53 hr tX (da_cons ((de_v 0)) (da_cons ((de_v 1)) (da_cons (de_int) da_nil))))) (da_cons ((de_cal T.c22 hr tX (da_cons ((de_v 0)) (da_cons ((de_v 2)) (da_cons (de_int) (da_cons (de_int) da_nil)))))) da_nil))))))))
    (dss_one (ds_ret (dm_val ((de_all rfl T.z_all (DN.de ((dn_lc rfl hN (di_c (di_any ((de_v 3)))) (blkOk_by (own := [("_law_leaf_here", 4)]) (by rfl)) (fun _ _ _ _ _ => (dg_name 4 hN)) (fun _ _ _ _ _ => dts_nil) (fun _ _ _ _ _ => (de_cal T.c56 hr tk0 (da_cons ((de_v 1)) (da_cons ((de_v 4)) da_nil)))))))))))))))
theorem S59 : FnScope ["_law_script", "_law_cells_so", "_law_k"] ["_law_script"] (defScope s59) := ⟨rfl, rfl, rfl, by decide +kernel, rfl, by decide +kernel, by decide +kernel⟩
theorem h59 (T : Tp P w K mg base C k r) (f : Addr) (cdv : Value) (A : Around) (outer : List Env) (s : Shared) (H : Hp) (E : XK) (L : List Addr) (H0 G0 : Hp) (hr : Room k (A.deeper (envOfC "law" (defScope s59) s.heap.objs.size f cdv))) :
    DSs (cxOf (L2.CX P w) P w K mg base ["_law_script", "_law_cells_so", "_law_k"] "law" (defScope s59) f cdv A outer s H E) ⟨K, L, H0, G0, C⟩ (fun cls d _ H => E cls d H) (defBody s59) (b59 r) := by
  have hN : (cxOf (L2.CX P w) P w K mg base ["_law_script", "_law_cells_so", "_law_k"] "law" (defScope s59) f cdv A outer s H E).N.Nodup := S59.nd
  have tX : Takes (cxOf (L2.CX P w) P w K mg base ["_law_script", "_law_cells_so", "_law_k"] "law" (defScope s59) f cdv A outer s H E) (fun cls d _ H => E cls d H) := takes_of rfl rfl rfl rfl
  exact (dss_cons (ds_if ((dt_not ((dt_truth ((de_cal0 T.c57 hr)))))) (dss_one (ds_ret (dm_val (de_bl)))) dss_nil)
    (dss_cons (ds_set (i := 1) hN (dm_val (DN.de ((dn_cal T.c13 hr tX (da_cons ((de_v 0)) (da_cons (de_int) da_nil)))))))
    (dss_one (ds_ret (dm_val ((de_all rfl T.z_all (DN.de ((dn_lc rfl hN (di_c (di_rng1 T.z_range ((de_len T.z_len ((de_v 1)))))) (blkOk_by (own := [("_law_k", 2)]) (by rfl)) (fun _ _ _ _ _ => (dg_name 2 hN)) (fun _ _ _ _ _ => dts_nil) (fun _ _ _ _ _ => (de_calBox T.c58 hr tk0 ((dn_cal T.c44 hr tk0 (da_cons ((de_v 1)) (da_cons ((de_v 2)) da_nil))))))))))))))))
end
structure Tn (K : PySem.W.Frag) (mg : Str → Option Value) (C : Nat → Addr) : Prop where
  z_abs : mg "abs" = none
  z_all : mg "all" = none
  z_bool : mg "bool" = none
  z_enumerate : mg "enumerate" = none
  z_int : mg "int" = none
  z_isinstance : mg "isinstance" = none
  z_len : mg "len" = none
  z_list : mg "list" = none
  z_max : mg "max" = none
  z_min : mg "min" = none
  z_range : mg "range" = none
  z_set : mg "set" = none
  z_sorted : mg "sorted" = none
  z_str : mg "str" = none
  z_tuple : mg "tuple" = none
  z_zip : mg "zip" = none
  g_OPEN : Gc K mg "OPEN" g_OPEN
  d1 : Df K mg "tupled" s1 ["value"]
  d3 : Df K mg "unlike_signs" s3 ["form", "other"]
  d5 : Df K mg "do_agree" s5 ["form", "other"]
  d37 : Df K mg "first_agreeing" s37 ["sides", "form"]
  d38 : Df K mg "passed" s38 ["sides", "form", "place", "rows"]
  d39 : Df K mg "rows_of" s39 ["sides", "form"]
  d40 : Df K mg "struck_by" s40 ["sides", "form"]
  d41 : Df K mg "blot" s41 ["sides", "form"]
  d42 : Df K mg "is_struck_whole" s42 ["sides", "form"]
  d43 : Df K mg "blot_rows" s43 ["sides", "form"]
  d44 : Df K mg "_law_box" s44 ["_law_script", "_law_k"]
  d12 : Df K mg "_law_take" s12 ["_law_tin", "_law_below_so"]
  d13 : Df K mg "_law_cells" s13 ["_law_script", "_law_most_so"]
  d14 : Df K mg "_law_of" s14 ["_law_tin", "_law_goods_so"]
  d15 : Df K mg "_law_pick" s15 ["_law_tin", "_law_goods_so", "_law_count_so"]
  d16 : Df K mg "_law_lists" s16 ["_law_matter"]
  d17 : Df K mg "_law_same" s17 ["_law_got", "_law_due"]
  d18 : Df K mg "_law_spots" s18 ["_law_leaf_here"]
  d19 : Df K mg "_law_at" s19 ["_law_leaf_here", "_law_spot_so"]
  d20 : Df K mg "_law_put" s20 ["_law_leaf_here", "_law_spot_so", "_law_fresh_so"]
  d45 : Df K mg "_law_agree" s45 ["_law_one_so", "_law_two_so"]
  d46 : Df K mg "_law_bits" s46 ["_law_page_so"]
  d47 : Df K mg "_law_touched" s47 ["_law_page_so", "_law_leaf_here"]
  d48 : Df K mg "_law_blot" s48 ["_law_page_so", "_law_leaf_here"]
  d21 : Df K mg "_law_leaf" s21 ["_law_tin", "_law_signs_so", "_law_fuel_so", "_law_deep_so"]
  d22 : Df K mg "_law_great" s22 ["_law_tin", "_law_signs_so", "_law_fuel_so", "_law_deep_so"]
  d49 : Df K mg "_law_side" s49 ["_law_tin"]
  d50 : Df K mg "_law_page" s50 ["_law_tin", "_law_many_so"]
  d51 : Df K mg "_law_three" s51 []
  d52 : Df K mg "_law_signs_of" s52 ["_law_page_so"]
  d53 : Df K mg "_law_near" s53 ["_law_tin", "_law_page_so", "_law_deep_so"]
  d54 : Df K mg "_law_first" s54 ["_law_page_so", "_law_leaf_here"]
  d55 : Df K mg "_law_below" s55 ["_law_page_so", "_law_leaf_here", "_law_spot_so", "_law_told_so"]
  d56 : Df K mg "_law_case_right" s56 ["_law_page_so", "_law_leaf_here"]
  d57 : Df K mg "_law_by_hand_right" s57 []
  d58 : Df K mg "_law_right" s58 ["_law_tin"]
  d59 : Df K mg "law" s59 ["_law_script"]
theorem tp {P : Program} {w : World} {K : PySem.W.Frag} {mg : Str → Option Value} {base : Heap} {C : Nat → Addr} (N : Tn K mg C) : ∀ k : Nat, Tp P w K mg base C k (run k)
  | 0 => by
    have c1 : Cal P w K mg base C (0) "tupled" s1 ["value"] 1 (run (0) 1) := N.d1.cal0
    have c3 : Cal P w K mg base C (0) "unlike_signs" s3 ["form", "other"] 2 (run (0) 3) := N.d3.cal0
    have c5 : Cal P w K mg base C (0) "do_agree" s5 ["form", "other"] 2 (run (0) 5) := N.d5.cal0
    have c37 : Cal P w K mg base C (0) "first_agreeing" s37 ["sides", "form"] 2 (run (0) 37) := N.d37.cal0
    have c38 : Cal P w K mg base C (0) "passed" s38 ["sides", "form", "place", "rows"] 4 (run (0) 38) := N.d38.cal0
    have c39 : Cal P w K mg base C (0) "rows_of" s39 ["sides", "form"] 2 (run (0) 39) := N.d39.cal0
    have c40 : Cal P w K mg base C (0) "struck_by" s40 ["sides", "form"] 2 (run (0) 40) := N.d40.cal0
    have c41 : Cal P w K mg base C (0) "blot" s41 ["sides", "form"] 2 (run (0) 41) := N.d41.cal0
    have c42 : Cal P w K mg base C (0) "is_struck_whole" s42 ["sides", "form"] 2 (run (0) 42) := N.d42.cal0
    have c43 : Cal P w K mg base C (0) "blot_rows" s43 ["sides", "form"] 2 (run (0) 43) := N.d43.cal0
    have c44 : Cal P w K mg base C (0) "_law_box" s44 ["_law_script", "_law_k"] 2 (run (0) 44) := N.d44.cal0
    have c12 : Cal P w K mg base C (0) "_law_take" s12 ["_law_tin", "_law_below_so"] 2 (run (0) 12) := N.d12.cal0
    have c13 : Cal P w K mg base C (0) "_law_cells" s13 ["_law_script", "_law_most_so"] 2 (run (0) 13) := N.d13.cal0
    have c14 : Cal P w K mg base C (0) "_law_of" s14 ["_law_tin", "_law_goods_so"] 2 (run (0) 14) := N.d14.cal0
    have c15 : Cal P w K mg base C (0) "_law_pick" s15 ["_law_tin", "_law_goods_so", "_law_count_so"] 3 (run (0) 15) := N.d15.cal0
    have c16 : Cal P w K mg base C (0) "_law_lists" s16 ["_law_matter"] 1 (run (0) 16) := N.d16.cal0
    have c17 : Cal P w K mg base C (0) "_law_same" s17 ["_law_got", "_law_due"] 2 (run (0) 17) := N.d17.cal0
    have c18 : Cal P w K mg base C (0) "_law_spots" s18 ["_law_leaf_here"] 1 (run (0) 18) := N.d18.cal0
    have c19 : Cal P w K mg base C (0) "_law_at" s19 ["_law_leaf_here", "_law_spot_so"] 2 (run (0) 19) := N.d19.cal0
    have c20 : Cal P w K mg base C (0) "_law_put" s20 ["_law_leaf_here", "_law_spot_so", "_law_fresh_so"] 3 (run (0) 20) := N.d20.cal0
    have c45 : Cal P w K mg base C (0) "_law_agree" s45 ["_law_one_so", "_law_two_so"] 2 (run (0) 45) := N.d45.cal0
    have c46 : Cal P w K mg base C (0) "_law_bits" s46 ["_law_page_so"] 1 (run (0) 46) := N.d46.cal0
    have c47 : Cal P w K mg base C (0) "_law_touched" s47 ["_law_page_so", "_law_leaf_here"] 2 (run (0) 47) := N.d47.cal0
    have c48 : Cal P w K mg base C (0) "_law_blot" s48 ["_law_page_so", "_law_leaf_here"] 2 (run (0) 48) := N.d48.cal0
    have c21 : Cal P w K mg base C (0) "_law_leaf" s21 ["_law_tin", "_law_signs_so", "_law_fuel_so", "_law_deep_so"] 4 (run (0) 21) := N.d21.cal0
    have c22 : Cal P w K mg base C (0) "_law_great" s22 ["_law_tin", "_law_signs_so", "_law_fuel_so", "_law_deep_so"] 4 (run (0) 22) := N.d22.cal0
    have c49 : Cal P w K mg base C (0) "_law_side" s49 ["_law_tin"] 1 (run (0) 49) := N.d49.cal0
    have c50 : Cal P w K mg base C (0) "_law_page" s50 ["_law_tin", "_law_many_so"] 2 (run (0) 50) := N.d50.cal0
    have c51 : Cal P w K mg base C (0) "_law_three" s51 [] 0 (run (0) 51) := N.d51.cal0
    have c52 : Cal P w K mg base C (0) "_law_signs_of" s52 ["_law_page_so"] 1 (run (0) 52) := N.d52.cal0
    have c53 : Cal P w K mg base C (0) "_law_near" s53 ["_law_tin", "_law_page_so", "_law_deep_so"] 3 (run (0) 53) := N.d53.cal0
    have c54 : Cal P w K mg base C (0) "_law_first" s54 ["_law_page_so", "_law_leaf_here"] 2 (run (0) 54) := N.d54.cal0
    have c55 : Cal P w K mg base C (0) "_law_below" s55 ["_law_page_so", "_law_leaf_here", "_law_spot_so", "_law_told_so"] 4 (run (0) 55) := N.d55.cal0
    have c56 : Cal P w K mg base C (0) "_law_case_right" s56 ["_law_page_so", "_law_leaf_here"] 2 (run (0) 56) := N.d56.cal0
    have c57 : Cal P w K mg base C (0) "_law_by_hand_right" s57 [] 0 (run (0) 57) := N.d57.cal0
    have c58 : Cal P w K mg base C (0) "_law_right" s58 ["_law_tin"] 1 (run (0) 58) := N.d58.cal0
    have c59 : Cal P w K mg base C (0) "law" s59 ["_law_script"] 1 (run (0) 59) := N.d59.cal0
    exact {
      z_abs := N.z_abs,
      z_all := N.z_all,
      z_bool := N.z_bool,
      z_enumerate := N.z_enumerate,
      z_int := N.z_int,
      z_isinstance := N.z_isinstance,
      z_len := N.z_len,
      z_list := N.z_list,
      z_max := N.z_max,
      z_min := N.z_min,
      z_range := N.z_range,
      z_set := N.z_set,
      z_sorted := N.z_sorted,
      z_str := N.z_str,
      z_tuple := N.z_tuple,
      z_zip := N.z_zip,
      g_OPEN := N.g_OPEN,
      c1 := c1,
      c3 := c3,
      c5 := c5,
      c37 := c37,
      c38 := c38,
      c39 := c39,
      c40 := c40,
      c41 := c41,
      c42 := c42,
      c43 := c43,
      c44 := c44,
      c12 := c12,
      c13 := c13,
      c14 := c14,
      c15 := c15,
      c16 := c16,
      c17 := c17,
      c18 := c18,
      c19 := c19,
      c20 := c20,
      c45 := c45,
      c46 := c46,
      c47 := c47,
      c48 := c48,
      c21 := c21,
      c22 := c22,
      c49 := c49,
      c50 := c50,
      c51 := c51,
      c52 := c52,
      c53 := c53,
      c54 := c54,
      c55 := c55,
      c56 := c56,
      c57 := c57,
      c58 := c58,
      c59 := c59,
      k41_1_0_0 := Cal.kw (m := 0) (n := 2) [1, 0] c41 (by decide) fun _ _ _ _ _ _ us ws h1 h2 => match us, ws, h1, h2 with | [], [_, _], _, _ => rfl,
      k40_1_0_0 := Cal.kw (m := 0) (n := 2) [1, 0] c40 (by decide) fun _ _ _ _ _ _ us ws h1 h2 => match us, ws, h1, h2 with | [], [_, _], _, _ => rfl,
      k41_0_1_0 := Cal.kw (m := 0) (n := 2) [0, 1] c41 (by decide) fun _ _ _ _ _ _ us ws h1 h2 => match us, ws, h1, h2 with | [], [_, _], _, _ => rfl,
      k43_1_0_0 := Cal.kw (m := 0) (n := 2) [1, 0] c43 (by decide) fun _ _ _ _ _ _ us ws h1 h2 => match us, ws, h1, h2 with | [], [_, _], _, _ => rfl,
      k42_1_0_0 := Cal.kw (m := 0) (n := 2) [1, 0] c42 (by decide) fun _ _ _ _ _ _ us ws h1 h2 => match us, ws, h1, h2 with | [], [_, _], _, _ => rfl }
  | k + 1 => by
    have ih : Tp P w K mg base C k (run k) := tp N k
    have c1 : Cal P w K mg base C (k + 1) "tupled" s1 ["value"] 1 (run (k + 1) 1) := N.d1.calS S1 (h1 ih)
    have c3 : Cal P w K mg base C (k + 1) "unlike_signs" s3 ["form", "other"] 2 (run (k + 1) 3) := N.d3.calS S3 (h3 ih)
    have c5 : Cal P w K mg base C (k + 1) "do_agree" s5 ["form", "other"] 2 (run (k + 1) 5) := N.d5.calS S5 (h5 ih)
    have c37 : Cal P w K mg base C (k + 1) "first_agreeing" s37 ["sides", "form"] 2 (run (k + 1) 37) := N.d37.calS S37 (h37 ih)
    have c38 : Cal P w K mg base C (k + 1) "passed" s38 ["sides", "form", "place", "rows"] 4 (run (k + 1) 38) := N.d38.calS S38 (h38 ih)
    have c39 : Cal P w K mg base C (k + 1) "rows_of" s39 ["sides", "form"] 2 (run (k + 1) 39) := N.d39.calS S39 (h39 ih)
    have c40 : Cal P w K mg base C (k + 1) "struck_by" s40 ["sides", "form"] 2 (run (k + 1) 40) := N.d40.calS S40 (h40 ih)
    have c41 : Cal P w K mg base C (k + 1) "blot" s41 ["sides", "form"] 2 (run (k + 1) 41) := N.d41.calS S41 (h41 ih)
    have c42 : Cal P w K mg base C (k + 1) "is_struck_whole" s42 ["sides", "form"] 2 (run (k + 1) 42) := N.d42.calS S42 (h42 ih)
    have c43 : Cal P w K mg base C (k + 1) "blot_rows" s43 ["sides", "form"] 2 (run (k + 1) 43) := N.d43.calS S43 (h43 ih)
    have c44 : Cal P w K mg base C (k + 1) "_law_box" s44 ["_law_script", "_law_k"] 2 (run (k + 1) 44) := N.d44.calS S44 (h44 ih)
    have c12 : Cal P w K mg base C (k + 1) "_law_take" s12 ["_law_tin", "_law_below_so"] 2 (run (k + 1) 12) := N.d12.calS S12 (h12 ih)
    have c13 : Cal P w K mg base C (k + 1) "_law_cells" s13 ["_law_script", "_law_most_so"] 2 (run (k + 1) 13) := N.d13.calS S13 (h13 ih)
    have c14 : Cal P w K mg base C (k + 1) "_law_of" s14 ["_law_tin", "_law_goods_so"] 2 (run (k + 1) 14) := N.d14.calS S14 (h14 ih)
    have c15 : Cal P w K mg base C (k + 1) "_law_pick" s15 ["_law_tin", "_law_goods_so", "_law_count_so"] 3 (run (k + 1) 15) := N.d15.calS S15 (h15 ih)
    have c16 : Cal P w K mg base C (k + 1) "_law_lists" s16 ["_law_matter"] 1 (run (k + 1) 16) := N.d16.calS S16 (h16 ih)
    have c17 : Cal P w K mg base C (k + 1) "_law_same" s17 ["_law_got", "_law_due"] 2 (run (k + 1) 17) := N.d17.calS S17 (h17 ih)
    have c18 : Cal P w K mg base C (k + 1) "_law_spots" s18 ["_law_leaf_here"] 1 (run (k + 1) 18) := N.d18.calS S18 (h18 ih)
    have c19 : Cal P w K mg base C (k + 1) "_law_at" s19 ["_law_leaf_here", "_law_spot_so"] 2 (run (k + 1) 19) := N.d19.calS S19 (h19 ih)
    have c20 : Cal P w K mg base C (k + 1) "_law_put" s20 ["_law_leaf_here", "_law_spot_so", "_law_fresh_so"] 3 (run (k + 1) 20) := N.d20.calS S20 (h20 ih)
    have c45 : Cal P w K mg base C (k + 1) "_law_agree" s45 ["_law_one_so", "_law_two_so"] 2 (run (k + 1) 45) := N.d45.calS S45 (h45 ih)
    have c46 : Cal P w K mg base C (k + 1) "_law_bits" s46 ["_law_page_so"] 1 (run (k + 1) 46) := N.d46.calS S46 (h46 ih)
    have c47 : Cal P w K mg base C (k + 1) "_law_touched" s47 ["_law_page_so", "_law_leaf_here"] 2 (run (k + 1) 47) := N.d47.calS S47 (h47 ih)
    have c48 : Cal P w K mg base C (k + 1) "_law_blot" s48 ["_law_page_so", "_law_leaf_here"] 2 (run (k + 1) 48) := N.d48.calS S48 (h48 ih)
    have c21 : Cal P w K mg base C (k + 1) "_law_leaf" s21 ["_law_tin", "_law_signs_so", "_law_fuel_so", "_law_deep_so"] 4 (run (k + 1) 21) := N.d21.calS S21 (h21 ih)
    have c22 : Cal P w K mg base C (k + 1) "_law_great" s22 ["_law_tin", "_law_signs_so", "_law_fuel_so", "_law_deep_so"] 4 (run (k + 1) 22) := N.d22.calS S22 (h22 ih)
    have c49 : Cal P w K mg base C (k + 1) "_law_side" s49 ["_law_tin"] 1 (run (k + 1) 49) := N.d49.calS S49 (h49 ih)
    have c50 : Cal P w K mg base C (k + 1) "_law_page" s50 ["_law_tin", "_law_many_so"] 2 (run (k + 1) 50) := N.d50.calS S50 (h50 ih)
    have c51 : Cal P w K mg base C (k + 1) "_law_three" s51 [] 0 (run (k + 1) 51) := N.d51.calS S51 (h51 ih)
    have c52 : Cal P w K mg base C (k + 1) "_law_signs_of" s52 ["_law_page_so"] 1 (run (k + 1) 52) := N.d52.calS S52 (h52 ih)
    have c53 : Cal P w K mg base C (k + 1) "_law_near" s53 ["_law_tin", "_law_page_so", "_law_deep_so"] 3 (run (k + 1) 53) := N.d53.calS S53 (h53 ih)
    have c54 : Cal P w K mg base C (k + 1) "_law_first" s54 ["_law_page_so", "_law_leaf_here"] 2 (run (k + 1) 54) := N.d54.calS S54 (h54 ih)
    have c55 : Cal P w K mg base C (k + 1) "_law_below" s55 ["_law_page_so", "_law_leaf_here", "_law_spot_so", "_law_told_so"] 4 (run (k + 1) 55) := N.d55.calS S55 (h55 ih)
    have c56 : Cal P w K mg base C (k + 1) "_law_case_right" s56 ["_law_page_so", "_law_leaf_here"] 2 (run (k + 1) 56) := N.d56.calS S56 (h56 ih)
    have c57 : Cal P w K mg base C (k + 1) "_law_by_hand_right" s57 [] 0 (run (k + 1) 57) := N.d57.calS S57 (h57 ih)
    have c58 : Cal P w K mg base C (k + 1) "_law_right" s58 ["_law_tin"] 1 (run (k + 1) 58) := N.d58.calS S58 (h58 ih)
    have c59 : Cal P w K mg base C (k + 1) "law" s59 ["_law_script"] 1 (run (k + 1) 59) := N.d59.calS S59 (h59 ih)
    exact {
      z_abs := N.z_abs,
      z_all := N.z_all,
      z_bool := N.z_bool,
      z_enumerate := N.z_enumerate,
      z_int := N.z_int,
      z_isinstance := N.z_isinstance,
      z_len := N.z_len,
      z_list := N.z_list,
      z_max := N.z_max,
      z_min := N.z_min,
      z_range := N.z_range,
      z_set := N.z_set,
      z_sorted := N.z_sorted,
      z_str := N.z_str,
      z_tuple := N.z_tuple,
      z_zip := N.z_zip,
      g_OPEN := N.g_OPEN,
      c1 := c1,
      c3 := c3,
      c5 := c5,
      c37 := c37,
      c38 := c38,
      c39 := c39,
      c40 := c40,
      c41 := c41,
      c42 := c42,
      c43 := c43,
      c44 := c44,
      c12 := c12,
      c13 := c13,
      c14 := c14,
      c15 := c15,
      c16 := c16,
      c17 := c17,
      c18 := c18,
      c19 := c19,
      c20 := c20,
      c45 := c45,
      c46 := c46,
      c47 := c47,
      c48 := c48,
      c21 := c21,
      c22 := c22,
      c49 := c49,
      c50 := c50,
      c51 := c51,
      c52 := c52,
      c53 := c53,
      c54 := c54,
      c55 := c55,
      c56 := c56,
      c57 := c57,
      c58 := c58,
      c59 := c59,
      k41_1_0_0 := Cal.kw (m := 0) (n := 2) [1, 0] c41 (by decide) fun _ _ _ _ _ _ us ws h1 h2 => match us, ws, h1, h2 with | [], [_, _], _, _ => rfl,
      k40_1_0_0 := Cal.kw (m := 0) (n := 2) [1, 0] c40 (by decide) fun _ _ _ _ _ _ us ws h1 h2 => match us, ws, h1, h2 with | [], [_, _], _, _ => rfl,
      k41_0_1_0 := Cal.kw (m := 0) (n := 2) [0, 1] c41 (by decide) fun _ _ _ _ _ _ us ws h1 h2 => match us, ws, h1, h2 with | [], [_, _], _, _ => rfl,
      k43_1_0_0 := Cal.kw (m := 0) (n := 2) [1, 0] c43 (by decide) fun _ _ _ _ _ _ us ws h1 h2 => match us, ws, h1, h2 with | [], [_, _], _, _ => rfl,
      k42_1_0_0 := Cal.kw (m := 0) (n := 2) [1, 0] c42 (by decide) fun _ _ _ _ _ _ us ws h1 h2 => match us, ws, h1, h2 with | [], [_, _], _, _ => rfl }
theorem mk {l : PySem.W.OpenLaw} {w : World} {K : PySem.W.Frag} {h : Heap} {mg : Str → Option Value} {fa : Addr} (X : K.In h) (G : h.Ns mainGlobals mg) (hfa : mg "law" = some (.ref fa))
    {f1 : Addr} {od1 an1 : Option Addr} {sl1 : Array (Option Value)} {oc1 kV1 dc1 pm1 cd1 ct1 : Value}
    {f3 : Addr} {od3 an3 : Option Addr} {sl3 : Array (Option Value)} {oc3 kV3 dc3 pm3 cd3 ct3 : Value}
    {f5 : Addr} {od5 an5 : Option Addr} {sl5 : Array (Option Value)} {oc5 kV5 dc5 pm5 cd5 ct5 : Value}
    {f37 : Addr} {od37 an37 : Option Addr} {sl37 : Array (Option Value)} {oc37 kV37 dc37 pm37 cd37 ct37 : Value}
    {f38 : Addr} {od38 an38 : Option Addr} {sl38 : Array (Option Value)} {oc38 kV38 dc38 pm38 cd38 ct38 : Value}
    {f39 : Addr} {od39 an39 : Option Addr} {sl39 : Array (Option Value)} {oc39 kV39 dc39 pm39 cd39 ct39 : Value}
    {f40 : Addr} {od40 an40 : Option Addr} {sl40 : Array (Option Value)} {oc40 kV40 dc40 pm40 cd40 ct40 : Value}
    {f41 : Addr} {od41 an41 : Option Addr} {sl41 : Array (Option Value)} {oc41 kV41 dc41 pm41 cd41 ct41 : Value}
    {f42 : Addr} {od42 an42 : Option Addr} {sl42 : Array (Option Value)} {oc42 kV42 dc42 pm42 cd42 ct42 : Value}
    {f43 : Addr} {od43 an43 : Option Addr} {sl43 : Array (Option Value)} {oc43 kV43 dc43 pm43 cd43 ct43 : Value}
    {f44 : Addr} {od44 an44 : Option Addr} {sl44 : Array (Option Value)} {oc44 kV44 dc44 pm44 cd44 ct44 : Value}
    {f12 : Addr} {od12 an12 : Option Addr} {sl12 : Array (Option Value)} {oc12 kV12 dc12 pm12 cd12 ct12 : Value}
    {f13 : Addr} {od13 an13 : Option Addr} {sl13 : Array (Option Value)} {oc13 kV13 dc13 pm13 cd13 ct13 : Value}
    {f14 : Addr} {od14 an14 : Option Addr} {sl14 : Array (Option Value)} {oc14 kV14 dc14 pm14 cd14 ct14 : Value}
    {f15 : Addr} {od15 an15 : Option Addr} {sl15 : Array (Option Value)} {oc15 kV15 dc15 pm15 cd15 ct15 : Value}
    {f16 : Addr} {od16 an16 : Option Addr} {sl16 : Array (Option Value)} {oc16 kV16 dc16 pm16 cd16 ct16 : Value}
    {f17 : Addr} {od17 an17 : Option Addr} {sl17 : Array (Option Value)} {oc17 kV17 dc17 pm17 cd17 ct17 : Value}
    {f18 : Addr} {od18 an18 : Option Addr} {sl18 : Array (Option Value)} {oc18 kV18 dc18 pm18 cd18 ct18 : Value}
    {f19 : Addr} {od19 an19 : Option Addr} {sl19 : Array (Option Value)} {oc19 kV19 dc19 pm19 cd19 ct19 : Value}
    {f20 : Addr} {od20 an20 : Option Addr} {sl20 : Array (Option Value)} {oc20 kV20 dc20 pm20 cd20 ct20 : Value}
    {f45 : Addr} {od45 an45 : Option Addr} {sl45 : Array (Option Value)} {oc45 kV45 dc45 pm45 cd45 ct45 : Value}
    {f46 : Addr} {od46 an46 : Option Addr} {sl46 : Array (Option Value)} {oc46 kV46 dc46 pm46 cd46 ct46 : Value}
    {f47 : Addr} {od47 an47 : Option Addr} {sl47 : Array (Option Value)} {oc47 kV47 dc47 pm47 cd47 ct47 : Value}
    {f48 : Addr} {od48 an48 : Option Addr} {sl48 : Array (Option Value)} {oc48 kV48 dc48 pm48 cd48 ct48 : Value}
    {f21 : Addr} {od21 an21 : Option Addr} {sl21 : Array (Option Value)} {oc21 kV21 dc21 pm21 cd21 ct21 : Value}
    {f22 : Addr} {od22 an22 : Option Addr} {sl22 : Array (Option Value)} {oc22 kV22 dc22 pm22 cd22 ct22 : Value}
    {f49 : Addr} {od49 an49 : Option Addr} {sl49 : Array (Option Value)} {oc49 kV49 dc49 pm49 cd49 ct49 : Value}
    {f50 : Addr} {od50 an50 : Option Addr} {sl50 : Array (Option Value)} {oc50 kV50 dc50 pm50 cd50 ct50 : Value}
    {f51 : Addr} {od51 an51 : Option Addr} {sl51 : Array (Option Value)} {oc51 kV51 dc51 pm51 cd51 ct51 : Value}
    {f52 : Addr} {od52 an52 : Option Addr} {sl52 : Array (Option Value)} {oc52 kV52 dc52 pm52 cd52 ct52 : Value}
    {f53 : Addr} {od53 an53 : Option Addr} {sl53 : Array (Option Value)} {oc53 kV53 dc53 pm53 cd53 ct53 : Value}
    {f54 : Addr} {od54 an54 : Option Addr} {sl54 : Array (Option Value)} {oc54 kV54 dc54 pm54 cd54 ct54 : Value}
    {f55 : Addr} {od55 an55 : Option Addr} {sl55 : Array (Option Value)} {oc55 kV55 dc55 pm55 cd55 ct55 : Value}
    {f56 : Addr} {od56 an56 : Option Addr} {sl56 : Array (Option Value)} {oc56 kV56 dc56 pm56 cd56 ct56 : Value}
    {f57 : Addr} {od57 an57 : Option Addr} {sl57 : Array (Option Value)} {oc57 kV57 dc57 pm57 cd57 ct57 : Value}
    {f58 : Addr} {od58 an58 : Option Addr} {sl58 : Array (Option Value)} {oc58 kV58 dc58 pm58 cd58 ct58 : Value}
    {f59 : Addr} {od59 an59 : Option Addr} {sl59 : Array (Option Value)} {oc59 kV59 dc59 pm59 cd59 ct59 : Value}
    {gA0 : Addr} {gO0 : Obj} {gn0 : Nat}
    (a1 : PySem.W.nsIn K mainGlobals "tupled" = some (some (.ref f1))) (l1 : K.lookup f1 = some ⟨oc1, od1, .func (PySem.W.fnOf "tupled" "tupled" (defArgs s1) (defBody s1) (defScope s1) .none kV1 dc1 pm1 an1 cd1 ct1), sl1⟩) (c1 : PySem.W.codeIn K cd1 "tupled" = true) (k1 : PySem.W.keepIn K (.ref f1) = true)
    (a3 : PySem.W.nsIn K mainGlobals "unlike_signs" = some (some (.ref f3))) (l3 : K.lookup f3 = some ⟨oc3, od3, .func (PySem.W.fnOf "unlike_signs" "unlike_signs" (defArgs s3) (defBody s3) (defScope s3) .none kV3 dc3 pm3 an3 cd3 ct3), sl3⟩) (c3 : PySem.W.codeIn K cd3 "unlike_signs" = true) (k3 : PySem.W.keepIn K (.ref f3) = true)
    (a5 : PySem.W.nsIn K mainGlobals "do_agree" = some (some (.ref f5))) (l5 : K.lookup f5 = some ⟨oc5, od5, .func (PySem.W.fnOf "do_agree" "do_agree" (defArgs s5) (defBody s5) (defScope s5) .none kV5 dc5 pm5 an5 cd5 ct5), sl5⟩) (c5 : PySem.W.codeIn K cd5 "do_agree" = true) (k5 : PySem.W.keepIn K (.ref f5) = true)
    (a37 : PySem.W.nsIn K mainGlobals "first_agreeing" = some (some (.ref f37))) (l37 : K.lookup f37 = some ⟨oc37, od37, .func (PySem.W.fnOf "first_agreeing" "first_agreeing" (defArgs s37) (defBody s37) (defScope s37) .none kV37 dc37 pm37 an37 cd37 ct37), sl37⟩) (c37 : PySem.W.codeIn K cd37 "first_agreeing" = true) (k37 : PySem.W.keepIn K (.ref f37) = true)
    (a38 : PySem.W.nsIn K mainGlobals "passed" = some (some (.ref f38))) (l38 : K.lookup f38 = some ⟨oc38, od38, .func (PySem.W.fnOf "passed" "passed" (defArgs s38) (defBody s38) (defScope s38) .none kV38 dc38 pm38 an38 cd38 ct38), sl38⟩) (c38 : PySem.W.codeIn K cd38 "passed" = true) (k38 : PySem.W.keepIn K (.ref f38) = true)
    (a39 : PySem.W.nsIn K mainGlobals "rows_of" = some (some (.ref f39))) (l39 : K.lookup f39 = some ⟨oc39, od39, .func (PySem.W.fnOf "rows_of" "rows_of" (defArgs s39) (defBody s39) (defScope s39) .none kV39 dc39 pm39 an39 cd39 ct39), sl39⟩) (c39 : PySem.W.codeIn K cd39 "rows_of" = true) (k39 : PySem.W.keepIn K (.ref f39) = true)
    (a40 : PySem.W.nsIn K mainGlobals "struck_by" = some (some (.ref f40))) (l40 : K.lookup f40 = some ⟨oc40, od40, .func (PySem.W.fnOf "struck_by" "struck_by" (defArgs s40) (defBody s40) (defScope s40) .none kV40 dc40 pm40 an40 cd40 ct40), sl40⟩) (c40 : PySem.W.codeIn K cd40 "struck_by" = true) (k40 : PySem.W.keepIn K (.ref f40) = true)
    (a41 : PySem.W.nsIn K mainGlobals "blot" = some (some (.ref f41))) (l41 : K.lookup f41 = some ⟨oc41, od41, .func (PySem.W.fnOf "blot" "blot" (defArgs s41) (defBody s41) (defScope s41) .none kV41 dc41 pm41 an41 cd41 ct41), sl41⟩) (c41 : PySem.W.codeIn K cd41 "blot" = true) (k41 : PySem.W.keepIn K (.ref f41) = true)
    (a42 : PySem.W.nsIn K mainGlobals "is_struck_whole" = some (some (.ref f42))) (l42 : K.lookup f42 = some ⟨oc42, od42, .func (PySem.W.fnOf "is_struck_whole" "is_struck_whole" (defArgs s42) (defBody s42) (defScope s42) .none kV42 dc42 pm42 an42 cd42 ct42), sl42⟩) (c42 : PySem.W.codeIn K cd42 "is_struck_whole" = true) (k42 : PySem.W.keepIn K (.ref f42) = true)
    (a43 : PySem.W.nsIn K mainGlobals "blot_rows" = some (some (.ref f43))) (l43 : K.lookup f43 = some ⟨oc43, od43, .func (PySem.W.fnOf "blot_rows" "blot_rows" (defArgs s43) (defBody s43) (defScope s43) .none kV43 dc43 pm43 an43 cd43 ct43), sl43⟩) (c43 : PySem.W.codeIn K cd43 "blot_rows" = true) (k43 : PySem.W.keepIn K (.ref f43) = true)
    (a44 : PySem.W.nsIn K mainGlobals "_law_box" = some (some (.ref f44))) (l44 : K.lookup f44 = some ⟨oc44, od44, .func (PySem.W.fnOf "_law_box" "_law_box" (defArgs s44) (defBody s44) (defScope s44) .none kV44 dc44 pm44 an44 cd44 ct44), sl44⟩) (c44 : PySem.W.codeIn K cd44 "_law_box" = true) (k44 : PySem.W.keepIn K (.ref f44) = true)
    (a12 : PySem.W.nsIn K mainGlobals "_law_take" = some (some (.ref f12))) (l12 : K.lookup f12 = some ⟨oc12, od12, .func (PySem.W.fnOf "_law_take" "_law_take" (defArgs s12) (defBody s12) (defScope s12) .none kV12 dc12 pm12 an12 cd12 ct12), sl12⟩) (c12 : PySem.W.codeIn K cd12 "_law_take" = true) (k12 : PySem.W.keepIn K (.ref f12) = true)
    (a13 : PySem.W.nsIn K mainGlobals "_law_cells" = some (some (.ref f13))) (l13 : K.lookup f13 = some ⟨oc13, od13, .func (PySem.W.fnOf "_law_cells" "_law_cells" (defArgs s13) (defBody s13) (defScope s13) .none kV13 dc13 pm13 an13 cd13 ct13), sl13⟩) (c13 : PySem.W.codeIn K cd13 "_law_cells" = true) (k13 : PySem.W.keepIn K (.ref f13) = true)
    (a14 : PySem.W.nsIn K mainGlobals "_law_of" = some (some (.ref f14))) (l14 : K.lookup f14 = some ⟨oc14, od14, .func (PySem.W.fnOf "_law_of" "_law_of" (defArgs s14) (defBody s14) (defScope s14) .none kV14 dc14 pm14 an14 cd14 ct14), sl14⟩) (c14 : PySem.W.codeIn K cd14 "_law_of" = true) (k14 : PySem.W.keepIn K (.ref f14) = true)
    (a15 : PySem.W.nsIn K mainGlobals "_law_pick" = some (some (.ref f15))) (l15 : K.lookup f15 = some ⟨oc15, od15, .func (PySem.W.fnOf "_law_pick" "_law_pick" (defArgs s15) (defBody s15) (defScope s15) .none kV15 dc15 pm15 an15 cd15 ct15), sl15⟩) (c15 : PySem.W.codeIn K cd15 "_law_pick" = true) (k15 : PySem.W.keepIn K (.ref f15) = true)
    (a16 : PySem.W.nsIn K mainGlobals "_law_lists" = some (some (.ref f16))) (l16 : K.lookup f16 = some ⟨oc16, od16, .func (PySem.W.fnOf "_law_lists" "_law_lists" (defArgs s16) (defBody s16) (defScope s16) .none kV16 dc16 pm16 an16 cd16 ct16), sl16⟩) (c16 : PySem.W.codeIn K cd16 "_law_lists" = true) (k16 : PySem.W.keepIn K (.ref f16) = true)
    (a17 : PySem.W.nsIn K mainGlobals "_law_same" = some (some (.ref f17))) (l17 : K.lookup f17 = some ⟨oc17, od17, .func (PySem.W.fnOf "_law_same" "_law_same" (defArgs s17) (defBody s17) (defScope s17) .none kV17 dc17 pm17 an17 cd17 ct17), sl17⟩) (c17 : PySem.W.codeIn K cd17 "_law_same" = true) (k17 : PySem.W.keepIn K (.ref f17) = true)
    (a18 : PySem.W.nsIn K mainGlobals "_law_spots" = some (some (.ref f18))) (l18 : K.lookup f18 = some ⟨oc18, od18, .func (PySem.W.fnOf "_law_spots" "_law_spots" (defArgs s18) (defBody s18) (defScope s18) .none kV18 dc18 pm18 an18 cd18 ct18), sl18⟩) (c18 : PySem.W.codeIn K cd18 "_law_spots" = true) (k18 : PySem.W.keepIn K (.ref f18) = true)
    (a19 : PySem.W.nsIn K mainGlobals "_law_at" = some (some (.ref f19))) (l19 : K.lookup f19 = some ⟨oc19, od19, .func (PySem.W.fnOf "_law_at" "_law_at" (defArgs s19) (defBody s19) (defScope s19) .none kV19 dc19 pm19 an19 cd19 ct19), sl19⟩) (c19 : PySem.W.codeIn K cd19 "_law_at" = true) (k19 : PySem.W.keepIn K (.ref f19) = true)
    (a20 : PySem.W.nsIn K mainGlobals "_law_put" = some (some (.ref f20))) (l20 : K.lookup f20 = some ⟨oc20, od20, .func (PySem.W.fnOf "_law_put" "_law_put" (defArgs s20) (defBody s20) (defScope s20) .none kV20 dc20 pm20 an20 cd20 ct20), sl20⟩) (c20 : PySem.W.codeIn K cd20 "_law_put" = true) (k20 : PySem.W.keepIn K (.ref f20) = true)
    (a45 : PySem.W.nsIn K mainGlobals "_law_agree" = some (some (.ref f45))) (l45 : K.lookup f45 = some ⟨oc45, od45, .func (PySem.W.fnOf "_law_agree" "_law_agree" (defArgs s45) (defBody s45) (defScope s45) .none kV45 dc45 pm45 an45 cd45 ct45), sl45⟩) (c45 : PySem.W.codeIn K cd45 "_law_agree" = true) (k45 : PySem.W.keepIn K (.ref f45) = true)
    (a46 : PySem.W.nsIn K mainGlobals "_law_bits" = some (some (.ref f46))) (l46 : K.lookup f46 = some ⟨oc46, od46, .func (PySem.W.fnOf "_law_bits" "_law_bits" (defArgs s46) (defBody s46) (defScope s46) .none kV46 dc46 pm46 an46 cd46 ct46), sl46⟩) (c46 : PySem.W.codeIn K cd46 "_law_bits" = true) (k46 : PySem.W.keepIn K (.ref f46) = true)
    (a47 : PySem.W.nsIn K mainGlobals "_law_touched" = some (some (.ref f47))) (l47 : K.lookup f47 = some ⟨oc47, od47, .func (PySem.W.fnOf "_law_touched" "_law_touched" (defArgs s47) (defBody s47) (defScope s47) .none kV47 dc47 pm47 an47 cd47 ct47), sl47⟩) (c47 : PySem.W.codeIn K cd47 "_law_touched" = true) (k47 : PySem.W.keepIn K (.ref f47) = true)
    (a48 : PySem.W.nsIn K mainGlobals "_law_blot" = some (some (.ref f48))) (l48 : K.lookup f48 = some ⟨oc48, od48, .func (PySem.W.fnOf "_law_blot" "_law_blot" (defArgs s48) (defBody s48) (defScope s48) .none kV48 dc48 pm48 an48 cd48 ct48), sl48⟩) (c48 : PySem.W.codeIn K cd48 "_law_blot" = true) (k48 : PySem.W.keepIn K (.ref f48) = true)
    (a21 : PySem.W.nsIn K mainGlobals "_law_leaf" = some (some (.ref f21))) (l21 : K.lookup f21 = some ⟨oc21, od21, .func (PySem.W.fnOf "_law_leaf" "_law_leaf" (defArgs s21) (defBody s21) (defScope s21) .none kV21 dc21 pm21 an21 cd21 ct21), sl21⟩) (c21 : PySem.W.codeIn K cd21 "_law_leaf" = true) (k21 : PySem.W.keepIn K (.ref f21) = true)
    (a22 : PySem.W.nsIn K mainGlobals "_law_great" = some (some (.ref f22))) (l22 : K.lookup f22 = some ⟨oc22, od22, .func (PySem.W.fnOf "_law_great" "_law_great" (defArgs s22) (defBody s22) (defScope s22) .none kV22 dc22 pm22 an22 cd22 ct22), sl22⟩) (c22 : PySem.W.codeIn K cd22 "_law_great" = true) (k22 : PySem.W.keepIn K (.ref f22) = true)
    (a49 : PySem.W.nsIn K mainGlobals "_law_side" = some (some (.ref f49))) (l49 : K.lookup f49 = some ⟨oc49, od49, .func (PySem.W.fnOf "_law_side" "_law_side" (defArgs s49) (defBody s49) (defScope s49) .none kV49 dc49 pm49 an49 cd49 ct49), sl49⟩) (c49 : PySem.W.codeIn K cd49 "_law_side" = true) (k49 : PySem.W.keepIn K (.ref f49) = true)
    (a50 : PySem.W.nsIn K mainGlobals "_law_page" = some (some (.ref f50))) (l50 : K.lookup f50 = some ⟨oc50, od50, .func (PySem.W.fnOf "_law_page" "_law_page" (defArgs s50) (defBody s50) (defScope s50) .none kV50 dc50 pm50 an50 cd50 ct50), sl50⟩) (c50 : PySem.W.codeIn K cd50 "_law_page" = true) (k50 : PySem.W.keepIn K (.ref f50) = true)
    (a51 : PySem.W.nsIn K mainGlobals "_law_three" = some (some (.ref f51))) (l51 : K.lookup f51 = some ⟨oc51, od51, .func (PySem.W.fnOf "_law_three" "_law_three" (defArgs s51) (defBody s51) (defScope s51) .none kV51 dc51 pm51 an51 cd51 ct51), sl51⟩) (c51 : PySem.W.codeIn K cd51 "_law_three" = true) (k51 : PySem.W.keepIn K (.ref f51) = true)
    (a52 : PySem.W.nsIn K mainGlobals "_law_signs_of" = some (some (.ref f52))) (l52 : K.lookup f52 = some ⟨oc52, od52, .func (PySem.W.fnOf "_law_signs_of" "_law_signs_of" (defArgs s52) (defBody s52) (defScope s52) .none kV52 dc52 pm52 an52 cd52 ct52), sl52⟩) (c52 : PySem.W.codeIn K cd52 "_law_signs_of" = true) (k52 : PySem.W.keepIn K (.ref f52) = true)
    (a53 : PySem.W.nsIn K mainGlobals "_law_near" = some (some (.ref f53))) (l53 : K.lookup f53 = some ⟨oc53, od53, .func (PySem.W.fnOf "_law_near" "_law_near" (defArgs s53) (defBody s53) (defScope s53) .none kV53 dc53 pm53 an53 cd53 ct53), sl53⟩) (c53 : PySem.W.codeIn K cd53 "_law_near" = true) (k53 : PySem.W.keepIn K (.ref f53) = true)
    (a54 : PySem.W.nsIn K mainGlobals "_law_first" = some (some (.ref f54))) (l54 : K.lookup f54 = some ⟨oc54, od54, .func (PySem.W.fnOf "_law_first" "_law_first" (defArgs s54) (defBody s54) (defScope s54) .none kV54 dc54 pm54 an54 cd54 ct54), sl54⟩) (c54 : PySem.W.codeIn K cd54 "_law_first" = true) (k54 : PySem.W.keepIn K (.ref f54) = true)
    (a55 : PySem.W.nsIn K mainGlobals "_law_below" = some (some (.ref f55))) (l55 : K.lookup f55 = some ⟨oc55, od55, .func (PySem.W.fnOf "_law_below" "_law_below" (defArgs s55) (defBody s55) (defScope s55) .none kV55 dc55 pm55 an55 cd55 ct55), sl55⟩) (c55 : PySem.W.codeIn K cd55 "_law_below" = true) (k55 : PySem.W.keepIn K (.ref f55) = true)
    (a56 : PySem.W.nsIn K mainGlobals "_law_case_right" = some (some (.ref f56))) (l56 : K.lookup f56 = some ⟨oc56, od56, .func (PySem.W.fnOf "_law_case_right" "_law_case_right" (defArgs s56) (defBody s56) (defScope s56) .none kV56 dc56 pm56 an56 cd56 ct56), sl56⟩) (c56 : PySem.W.codeIn K cd56 "_law_case_right" = true) (k56 : PySem.W.keepIn K (.ref f56) = true)
    (a57 : PySem.W.nsIn K mainGlobals "_law_by_hand_right" = some (some (.ref f57))) (l57 : K.lookup f57 = some ⟨oc57, od57, .func (PySem.W.fnOf "_law_by_hand_right" "_law_by_hand_right" (defArgs s57) (defBody s57) (defScope s57) .none kV57 dc57 pm57 an57 cd57 ct57), sl57⟩) (c57 : PySem.W.codeIn K cd57 "_law_by_hand_right" = true) (k57 : PySem.W.keepIn K (.ref f57) = true)
    (a58 : PySem.W.nsIn K mainGlobals "_law_right" = some (some (.ref f58))) (l58 : K.lookup f58 = some ⟨oc58, od58, .func (PySem.W.fnOf "_law_right" "_law_right" (defArgs s58) (defBody s58) (defScope s58) .none kV58 dc58 pm58 an58 cd58 ct58), sl58⟩) (c58 : PySem.W.codeIn K cd58 "_law_right" = true) (k58 : PySem.W.keepIn K (.ref f58) = true)
    (a59 : PySem.W.nsIn K mainGlobals "law" = some (some (.ref f59))) (l59 : K.lookup f59 = some ⟨oc59, od59, .func (PySem.W.fnOf "law" "law" (defArgs s59) (defBody s59) (defScope s59) .none kV59 dc59 pm59 an59 cd59 ct59), sl59⟩) (c59 : PySem.W.codeIn K cd59 "law" = true) (k59 : PySem.W.keepIn K (.ref f59) = true)
    (z0 : PySem.W.nsIn K mainGlobals "abs" = some none)
    (z1 : PySem.W.nsIn K mainGlobals "all" = some none)
    (z2 : PySem.W.nsIn K mainGlobals "bool" = some none)
    (z3 : PySem.W.nsIn K mainGlobals "enumerate" = some none)
    (z4 : PySem.W.nsIn K mainGlobals "int" = some none)
    (z5 : PySem.W.nsIn K mainGlobals "isinstance" = some none)
    (z6 : PySem.W.nsIn K mainGlobals "len" = some none)
    (z7 : PySem.W.nsIn K mainGlobals "list" = some none)
    (z8 : PySem.W.nsIn K mainGlobals "max" = some none)
    (z9 : PySem.W.nsIn K mainGlobals "min" = some none)
    (z10 : PySem.W.nsIn K mainGlobals "range" = some none)
    (z11 : PySem.W.nsIn K mainGlobals "set" = some none)
    (z12 : PySem.W.nsIn K mainGlobals "sorted" = some none)
    (z13 : PySem.W.nsIn K mainGlobals "str" = some none)
    (z14 : PySem.W.nsIn K mainGlobals "tuple" = some none)
    (z15 : PySem.W.nsIn K mainGlobals "zip" = some none)
    (ga0 : PySem.W.nsIn K mainGlobals "OPEN" = some (some (.ref gA0))) (gl0 : K.lookup gA0 = some gO0) (gc0 : gO0.cls = .type "tuple") (gd0 : gO0.data = .seq #[] gn0)
    : ∃ fd : FuncData, (∀ (s : Shared) (v : Value), BindsTo s fd ⟨[v], []⟩ [("_law_script", v)]) ∧ ∀ base : Heap, K.In base → base.Ns mainGlobals mg → FnOk l.prog w K mg base (L2.CX l.prog w) KK fa fd ["_law_script"] (spLaw K (run KK 59)) := by
  have e := hfa.symm.trans (PySem.W.mg_of X G a59)
  cases e
  have N : Tn K mg (fun _ => 0) := {
    d1 := Df.mk' X G a1 l1 c1 k1 fun _ _ _ _ _ _ us hl => match us, hl with | [_], _ => rfl,
    d3 := Df.mk' X G a3 l3 c3 k3 fun _ _ _ _ _ _ us hl => match us, hl with | [_, _], _ => rfl,
    d5 := Df.mk' X G a5 l5 c5 k5 fun _ _ _ _ _ _ us hl => match us, hl with | [_, _], _ => rfl,
    d37 := Df.mk' X G a37 l37 c37 k37 fun _ _ _ _ _ _ us hl => match us, hl with | [_, _], _ => rfl,
    d38 := Df.mk' X G a38 l38 c38 k38 fun _ _ _ _ _ _ us hl => match us, hl with | [_, _, _, _], _ => rfl,
    d39 := Df.mk' X G a39 l39 c39 k39 fun _ _ _ _ _ _ us hl => match us, hl with | [_, _], _ => rfl,
    d40 := Df.mk' X G a40 l40 c40 k40 fun _ _ _ _ _ _ us hl => match us, hl with | [_, _], _ => rfl,
    d41 := Df.mk' X G a41 l41 c41 k41 fun _ _ _ _ _ _ us hl => match us, hl with | [_, _], _ => rfl,
    d42 := Df.mk' X G a42 l42 c42 k42 fun _ _ _ _ _ _ us hl => match us, hl with | [_, _], _ => rfl,
    d43 := Df.mk' X G a43 l43 c43 k43 fun _ _ _ _ _ _ us hl => match us, hl with | [_, _], _ => rfl,
    d44 := Df.mk' X G a44 l44 c44 k44 fun _ _ _ _ _ _ us hl => match us, hl with | [_, _], _ => rfl,
    d12 := Df.mk' X G a12 l12 c12 k12 fun _ _ _ _ _ _ us hl => match us, hl with | [_, _], _ => rfl,
    d13 := Df.mk' X G a13 l13 c13 k13 fun _ _ _ _ _ _ us hl => match us, hl with | [_, _], _ => rfl,
    d14 := Df.mk' X G a14 l14 c14 k14 fun _ _ _ _ _ _ us hl => match us, hl with | [_, _], _ => rfl,
    d15 := Df.mk' X G a15 l15 c15 k15 fun _ _ _ _ _ _ us hl => match us, hl with | [_, _, _], _ => rfl,
    d16 := Df.mk' X G a16 l16 c16 k16 fun _ _ _ _ _ _ us hl => match us, hl with | [_], _ => rfl,
    d17 := Df.mk' X G a17 l17 c17 k17 fun _ _ _ _ _ _ us hl => match us, hl with | [_, _], _ => rfl,
    d18 := Df.mk' X G a18 l18 c18 k18 fun _ _ _ _ _ _ us hl => match us, hl with | [_], _ => rfl,
    d19 := Df.mk' X G a19 l19 c19 k19 fun _ _ _ _ _ _ us hl => match us, hl with | [_, _], _ => rfl,
    d20 := Df.mk' X G a20 l20 c20 k20 fun _ _ _ _ _ _ us hl => match us, hl with | [_, _, _], _ => rfl,
    d45 := Df.mk' X G a45 l45 c45 k45 fun _ _ _ _ _ _ us hl => match us, hl with | [_, _], _ => rfl,
    d46 := Df.mk' X G a46 l46 c46 k46 fun _ _ _ _ _ _ us hl => match us, hl with | [_], _ => rfl,
    d47 := Df.mk' X G a47 l47 c47 k47 fun _ _ _ _ _ _ us hl => match us, hl with | [_, _], _ => rfl,
    d48 := Df.mk' X G a48 l48 c48 k48 fun _ _ _ _ _ _ us hl => match us, hl with | [_, _], _ => rfl,
    d21 := Df.mk' X G a21 l21 c21 k21 fun _ _ _ _ _ _ us hl => match us, hl with | [_, _, _, _], _ => rfl,
    d22 := Df.mk' X G a22 l22 c22 k22 fun _ _ _ _ _ _ us hl => match us, hl with | [_, _, _, _], _ => rfl,
    d49 := Df.mk' X G a49 l49 c49 k49 fun _ _ _ _ _ _ us hl => match us, hl with | [_], _ => rfl,
    d50 := Df.mk' X G a50 l50 c50 k50 fun _ _ _ _ _ _ us hl => match us, hl with | [_, _], _ => rfl,
    d51 := Df.mk' X G a51 l51 c51 k51 fun _ _ _ _ _ _ us hl => match us, hl with | [], _ => rfl,
    d52 := Df.mk' X G a52 l52 c52 k52 fun _ _ _ _ _ _ us hl => match us, hl with | [_], _ => rfl,
    d53 := Df.mk' X G a53 l53 c53 k53 fun _ _ _ _ _ _ us hl => match us, hl with | [_, _, _], _ => rfl,
    d54 := Df.mk' X G a54 l54 c54 k54 fun _ _ _ _ _ _ us hl => match us, hl with | [_, _], _ => rfl,
    d55 := Df.mk' X G a55 l55 c55 k55 fun _ _ _ _ _ _ us hl => match us, hl with | [_, _, _, _], _ => rfl,
    d56 := Df.mk' X G a56 l56 c56 k56 fun _ _ _ _ _ _ us hl => match us, hl with | [_, _], _ => rfl,
    d57 := Df.mk' X G a57 l57 c57 k57 fun _ _ _ _ _ _ us hl => match us, hl with | [], _ => rfl,
    d58 := Df.mk' X G a58 l58 c58 k58 fun _ _ _ _ _ _ us hl => match us, hl with | [_], _ => rfl,
    d59 := Df.mk' X G a59 l59 c59 k59 fun _ _ _ _ _ _ us hl => match us, hl with | [_], _ => rfl,
    z_abs := PySem.W.mg_none_of X G z0,
    z_all := PySem.W.mg_none_of X G z1,
    z_bool := PySem.W.mg_none_of X G z2,
    z_enumerate := PySem.W.mg_none_of X G z3,
    z_int := PySem.W.mg_none_of X G z4,
    z_isinstance := PySem.W.mg_none_of X G z5,
    z_len := PySem.W.mg_none_of X G z6,
    z_list := PySem.W.mg_none_of X G z7,
    z_max := PySem.W.mg_none_of X G z8,
    z_min := PySem.W.mg_none_of X G z9,
    z_range := PySem.W.mg_none_of X G z10,
    z_set := PySem.W.mg_none_of X G z11,
    z_sorted := PySem.W.mg_none_of X G z12,
    z_str := PySem.W.mg_none_of X G z13,
    z_tuple := PySem.W.mg_none_of X G z14,
    z_zip := PySem.W.mg_none_of X G z15,
    g_OPEN := gc_tup0 (PySem.W.mg_of X G ga0) gl0 gc0 gd0 }
  exact law_fn (fun base => (tp (P := l.prog) (w := w) (base := base) N KK).c59) l59 (PySem.W.mg_of X G a59) fun s v => .of_eq rfl
/- cases: a1 l1 c1 k1 a3 l3 c3 k3 a5 l5 c5 k5 a37 l37 c37 k37 a38 l38 c38 k38 a39 l39 c39 k39 a40 l40 c40 k40 a41 l41 c41 k41 a42 l42 c42 k42 a43 l43 c43 k43 a44 l44 c44 k44 a12 l12 c12 k12 a13 l13 c13 k13 a14 l14 c14 k14 a15 l15 c15 k15 a16 l16 c16 k16 a17 l17 c17 k17 a18 l18 c18 k18 a19 l19 c19 k19 a20 l20 c20 k20 a45 l45 c45 k45 a46 l46 c46 k46 a47 l47 c47 k47 a48 l48 c48 k48 a21 l21 c21 k21 a22 l22 c22 k22 a49 l49 c49 k49 a50 l50 c50 k50 a51 l51 c51 k51 a52 l52 c52 k52 a53 l53 c53 k53 a54 l54 c54 k54 a55 l55 c55 k55 a56 l56 c56 k56 a57 l57 c57 k57 a58 l58 c58 k58 a59 l59 c59 k59 z0 z1 z2 z3 z4 z5 z6 z7 z8 z9 z10 z11 z12 z13 z14 z15 ga0 gl0 gc0 gd0 -/
end Kx

set_option Elab.async false
set_option linter.all false
set_option maxRecDepth 100000
set_option maxHeartbeats 4000000
open PySem PySem.W PyProof.Rows
set_option maxRecDepth 100000 in
set_option maxHeartbeats 0 in
theorem PySem.Challenge.cw_notinvain_k07_blots_by_one_pass_holds : PySem.Challenge.rw_notinvain_k07_blots_by_one_pass.Holds := by
  w_on; o_law; k_head; (case hw => w_witness2)
  k_fill
  refine Q.walkQ (l := PySem.Challenge.rw_notinvain_k07_blots_by_one_pass) (k := Kx.KK) (y := "_law_script") (run := Kx.run Kx.KK 59) rfl rfl ⟨rfl, by decide, by decide⟩ (fun w h Y => PySem.W.kIn_of Y) ?F Kx.law7_true
  case F =>
    intro w mg fa h KX G hmg
    refine' Kx.mk KX G hmg ?a1 ?l1 ?c1 ?k1 ?a3 ?l3 ?c3 ?k3 ?a5 ?l5 ?c5 ?k5 ?a37 ?l37 ?c37 ?k37 ?a38 ?l38 ?c38 ?k38 ?a39 ?l39 ?c39 ?k39 ?a40 ?l40 ?c40 ?k40 ?a41 ?l41 ?c41 ?k41 ?a42 ?l42 ?c42 ?k42 ?a43 ?l43 ?c43 ?k43 ?a44 ?l44 ?c44 ?k44 ?a12 ?l12 ?c12 ?k12 ?a13 ?l13 ?c13 ?k13 ?a14 ?l14 ?c14 ?k14 ?a15 ?l15 ?c15 ?k15 ?a16 ?l16 ?c16 ?k16 ?a17 ?l17 ?c17 ?k17 ?a18 ?l18 ?c18 ?k18 ?a19 ?l19 ?c19 ?k19 ?a20 ?l20 ?c20 ?k20 ?a45 ?l45 ?c45 ?k45 ?a46 ?l46 ?c46 ?k46 ?a47 ?l47 ?c47 ?k47 ?a48 ?l48 ?c48 ?k48 ?a21 ?l21 ?c21 ?k21 ?a22 ?l22 ?c22 ?k22 ?a49 ?l49 ?c49 ?k49 ?a50 ?l50 ?c50 ?k50 ?a51 ?l51 ?c51 ?k51 ?a52 ?l52 ?c52 ?k52 ?a53 ?l53 ?c53 ?k53 ?a54 ?l54 ?c54 ?k54 ?a55 ?l55 ?c55 ?k55 ?a56 ?l56 ?c56 ?k56 ?a57 ?l57 ?c57 ?k57 ?a58 ?l58 ?c58 ?k58 ?a59 ?l59 ?c59 ?k59 ?z0 ?z1 ?z2 ?z3 ?z4 ?z5 ?z6 ?z7 ?z8 ?z9 ?z10 ?z11 ?z12 ?z13 ?z14 ?z15 ?ga0 ?gl0 ?gc0 ?gd0
    (case a1 => k_is); (case l1 => k_is); (case c1 => k_is); (case k1 => k_is); (case a3 => k_is); (case l3 => k_is); (case c3 => k_is); (case k3 => k_is)
    (case a5 => k_is); (case l5 => k_is); (case c5 => k_is); (case k5 => k_is); (case a37 => k_is); (case l37 => k_is); (case c37 => k_is); (case k37 => k_is)
    (case a38 => k_is); (case l38 => k_is); (case c38 => k_is); (case k38 => k_is); (case a39 => k_is); (case l39 => k_is); (case c39 => k_is); (case k39 => k_is)
    (case a40 => k_is); (case l40 => k_is); (case c40 => k_is); (case k40 => k_is); (case a41 => k_is); (case l41 => k_is); (case c41 => k_is); (case k41 => k_is)
    (case a42 => k_is); (case l42 => k_is); (case c42 => k_is); (case k42 => k_is); (case a43 => k_is); (case l43 => k_is); (case c43 => k_is); (case k43 => k_is)
    (case a44 => k_is); (case l44 => k_is); (case c44 => k_is); (case k44 => k_is); (case a12 => k_is); (case l12 => k_is); (case c12 => k_is); (case k12 => k_is)
    (case a13 => k_is); (case l13 => k_is); (case c13 => k_is); (case k13 => k_is); (case a14 => k_is); (case l14 => k_is); (case c14 => k_is); (case k14 => k_is)
    (case a15 => k_is); (case l15 => k_is); (case c15 => k_is); (case k15 => k_is); (case a16 => k_is); (case l16 => k_is); (case c16 => k_is); (case k16 => k_is)
    (case a17 => k_is); (case l17 => k_is); (case c17 => k_is); (case k17 => k_is); (case a18 => k_is); (case l18 => k_is); (case c18 => k_is); (case k18 => k_is)
    (case a19 => k_is); (case l19 => k_is); (case c19 => k_is); (case k19 => k_is); (case a20 => k_is); (case l20 => k_is); (case c20 => k_is); (case k20 => k_is)
    (case a45 => k_is); (case l45 => k_is); (case c45 => k_is); (case k45 => k_is); (case a46 => k_is); (case l46 => k_is); (case c46 => k_is); (case k46 => k_is)
    (case a47 => k_is); (case l47 => k_is); (case c47 => k_is); (case k47 => k_is); (case a48 => k_is); (case l48 => k_is); (case c48 => k_is); (case k48 => k_is)
    (case a21 => k_is); (case l21 => k_is); (case c21 => k_is); (case k21 => k_is); (case a22 => k_is); (case l22 => k_is); (case c22 => k_is); (case k22 => k_is)
    (case a49 => k_is); (case l49 => k_is); (case c49 => k_is); (case k49 => k_is); (case a50 => k_is); (case l50 => k_is); (case c50 => k_is); (case k50 => k_is)
    (case a51 => k_is); (case l51 => k_is); (case c51 => k_is); (case k51 => k_is); (case a52 => k_is); (case l52 => k_is); (case c52 => k_is); (case k52 => k_is)
    (case a53 => k_is); (case l53 => k_is); (case c53 => k_is); (case k53 => k_is); (case a54 => k_is); (case l54 => k_is); (case c54 => k_is); (case k54 => k_is)
    (case a55 => k_is); (case l55 => k_is); (case c55 => k_is); (case k55 => k_is); (case a56 => k_is); (case l56 => k_is); (case c56 => k_is); (case k56 => k_is)
    (case a57 => k_is); (case l57 => k_is); (case c57 => k_is); (case k57 => k_is); (case a58 => k_is); (case l58 => k_is); (case c58 => k_is); (case k58 => k_is)
    (case a59 => k_is); (case l59 => k_is); (case c59 => k_is); (case k59 => k_is); (case z0 => k_is); (case z1 => k_is); (case z2 => k_is); (case z3 => k_is)
    (case z4 => k_is); (case z5 => k_is); (case z6 => k_is); (case z7 => k_is); (case z8 => k_is); (case z9 => k_is); (case z10 => k_is); (case z11 => k_is)
    (case z12 => k_is); (case z13 => k_is); (case z14 => k_is); (case z15 => k_is); (case ga0 => k_is); (case gl0 => k_is); (case gc0 => first | rfl | k_is); (case gd0 => first | rfl | k_is)

