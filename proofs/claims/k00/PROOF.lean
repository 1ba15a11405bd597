import PyProof.Rows.All
import Wide.All
import OpenK.AllK
import Wide.FinOn
import HandS.ForMost
import HandS.ForExc
import HandS.Walk
import HandS.IsInst
import HandS.Wide
import HandS.Deep
import HandS.Zip
import HandS.EndBits
import HandS.TupAny
import HandS.Conv
import HandS.TupMul
import KE.KeyNested
import KE.GoesNew
import KE.GoesZip
import KE.GoesEnum
import HandS.ExcInit
import HandS.Flow
import HandS.Style
import KE.SortData
import KE.SortCalls
import HandS.TupSets
import HandS.Star
import KE.KDictKeyed
import HandS.ExcIs
import KE.KExcSuper
import KE.KExcInit
import HandS.ExcOwn
import HandS.TryMany
import HandS.ExcField
import KE.KExcIs
import HandS.Iter
import HandS.SortKw
import KE.DataMinMax
import HandS.More
import HandS.MakeKw
import HandS.IterVal
import PyProof.LayNew
import KE.KIndexOf
import HandS.Rev
import KE.KDictZip
import KE.GoesMore
import HandS.ExcValue
import PySem.Challenge.RW_notinvain_k00_errors_made_by_hand
set_option Elab.async false
set_option linter.all false
set_option maxRecDepth 100000
set_option maxHeartbeats 4000000
namespace Q
open PySem PySem.Spec PyProof.Rows L2
structure KW where
  toFrag : PySem.W.Frag
  w : World
instance : CoeOut KW PySem.W.Frag := ⟨KW.toFrag⟩
def TupO (o : Obj) : Prop := o.cls = .type "tuple" ∧ o.dict = none
def TOk : HO → Prop
  | .tup _ => False
  | .frz o (.tup _) => o.dict = none
  | _ => True
section
variable {X : Cx} {pins : List (Addr × Obj)} {τ : L2.St} {H : Hp} {s : Shared}
theorem lay_tup {xs : List V} {us : List Value} {m : Heap} {tk : Nat} {Q : VK} (I : Inv X pins τ H { s with heap := m, toks := tk }) (r : Vals xs us) (z : xs.length ≤ sizeLine) (q : ∀ p o, H p = none → TupO o → Q (.ref p) (upd H p (.frz o (.tup xs)))) :
    EP X pins τ Q (.ref m.objs.size) { s with heap := m.push { cls := .type "tuple", data := .seq us.toArray }, toks := tk } := by
  have I2 : Inv X pins τ (upd H m.objs.size (.frz { cls := .type "tuple", data := .seq us.toArray } (.tup xs))) { s with heap := m.push { cls := .type "tuple", data := .seq us.toArray }, toks := tk } :=
    I.laid (t' := tk) (fun b u e => Heap.get?_push_of_some _ e) (Nat.le_refl _) ⟨Heap.get?_push_size _ rfl, z, us, r, IsTup.new _ _⟩
  exact ⟨.ref m.objs.size, _, I2, rfl, q _ _ (I.hok.fresh (Nat.le_refl _)) ⟨rfl, rfl⟩⟩
end
section
variable {X : Cx}
def tTupF (t : TA) : TE := fun τ H Q => t τ H fun xs H1 => xs.length ≤ sizeLine ∧ ∀ p o, H1 p = none → TupO o → Q (.ref p) (upd H1 p (.frz o (.tup xs)))
theorem pe_tupF {es : List Expr} {t : TA} {pos : Pos} {k : Nat} (ha : PA X es t) : PE X (.Tuple es k pos) (tTupF t) :=
  ⟨fun pins s τ H Q I hq => wpAny_Tuple_spliced (thn (ha.run pos pins s τ H _ I hq) fun us s1 ⟨xs, H1, I1, r, z, q⟩ => ⟨by rw [← r.length]; exact z, lay_tup (s := s1) (m := s1.heap) (tk := s1.toks) I1 r z q⟩)⟩
def rCatF (K : PySem.W.Frag) : R2 := fun x y H Q => ∃ a b xs ys, x = .ref a ∧ y = .ref b ∧ SqT K H a xs ∧ SqT K H b ys ∧ xs.length + ys.length ≤ sizeLine ∧
  (xs = [] → Q (.ref b) H) ∧ (xs ≠ [] → ys = [] → Q (.ref a) H) ∧ (xs ≠ [] → ys ≠ [] → ∀ p o, H p = none → TupO o → Q (.ref p) (upd H p (.frz o (.tup (xs ++ ys)))))
theorem op_catF : OpR X (binaryOp .Add) (rCatF X.K) := by
  intro pins s τ H x y v u Q I rx ry h
  obtain ⟨a, b, xs, ys, ex, ey, ha, hb, hz, q0, q1, q2⟩ := h
  subst ex ey
  obtain ⟨is, r1, p1, _⟩ := I.tuple ha
  obtain ⟨js, r2, p2, _⟩ := I.tuple hb
  cases rx; cases ry
  by_cases hx : xs = []
  · subst hx
    cases r1
    exact cat_tup0 p1 p2 ⟨.ref b, H, I, rfl, q0 rfl⟩
  · refine HT.cat_tup p1 p2 (mt r1.nil_iff.mp hx) (fun z => ⟨.ref a, H, I, rfl, q1 hx (r2.nil_iff.mp z)⟩) (fun z => ?_) (by rw [← r1.length, ← r2.length]; exact hz)
    exact lay_tup (s := s) (m := s.heap) (tk := s.toks) I (r1.append r2) (by rw [List.length_append]; exact hz) (q2 hx fun w => z (r2.nil_iff.mpr w))
def rSlF (K : PySem.W.Frag) : V → Option Int → Option Int → Hp → VK → Prop := fun x lo hi H Q => ∃ a xs, x = .ref a ∧ SqT K H a xs ∧
  (HT.sIx xs.length 0 lo = 0 ∧ HT.sIx xs.length xs.length hi = xs.length → Q (.ref a) H) ∧ (¬ (HT.sIx xs.length 0 lo = 0 ∧ HT.sIx xs.length xs.length hi = xs.length) → ∀ p o, H p = none → TupO o → Q (.ref p) (upd H p (.frz o (.tup (cutV xs lo hi)))))
theorem sl_tupF : SlR X (rSlF X.K) := by
  intro pins s τ H x v vl vu lo hi sl Q I rx hs pl pu h
  obtain ⟨a, xs, rfl, hx, q1, q2⟩ := h
  by_cases hw : HT.sIx xs.length 0 lo = 0 ∧ HT.sIx xs.length xs.length hi = xs.length
  · exact sl_tupA pins s τ H _ v vl vu lo hi sl Q I rx hs pl pu ⟨a, xs, rfl, hx, q1, fun n => absurd hw n⟩
  · cases rx
    obtain ⟨us, r, t, hz⟩ := I.tuple hx
    have hl : us.toArray.size = xs.length := by rw [List.size_toArray]; exact r.length.symm
    refine ⟨"tuple", _, PyProof.Rows.slot_tuple_getitem.lookup, t.typeIs, HT.getItem_tuple_cut t hs pl pu (by rw [hl]; exact hw) ?_ (by rw [hl]; exact hz)⟩
    rw [hl]
    exact lay_tup (s := s) (m := s.heap) (tk := s.toks) I ((r.drop _).take _) (Nat.le_trans (cutV_length xs lo hi) hz) (q2 hw)
theorem call_tuple_F : CallR X (.type "tuple") (fun xs H Q => ∃ p ys, xs = [.ref p] ∧ ((SqL X.K H p ys ∧ ∀ l o, H l = none → TupO o → Q (.ref l) (upd H l (.frz o (.tup ys)))) ∨ (SqT X.K H p ys ∧ Q (.ref p) H))) := by
  intro pins s τ H xs us Q I r h
  obtain ⟨p, ys, rfl, h⟩ := h
  obtain ⟨u, rfl, ru⟩ := vals1 r
  cases ru
  rcases h with ⟨hp, q⟩ | ⟨hp, q⟩
  · obtain ⟨is, ri, pl, z⟩ := I.list hp
    refine call_tuple_list pl.isList (fun m kp => ?_) (by rw [List.size_toArray, ← ri.length]; exact z)
    have I1 : Inv X pins τ H { s with heap := m } := I.kept (t' := s.toks) kp
    exact lay_tup (s := s) (m := m) (tk := s.toks) I1 ri z q
  · obtain ⟨is, _, pl, _⟩ := I.tuple hp
    exact call_tuple_same pl ⟨.ref p, H, I, rfl, q⟩
end
end Q
set_option Elab.async false
set_option linter.all false
set_option maxRecDepth 100000
set_option maxHeartbeats 4000000
namespace Q
open PySem PySem.Spec PyProof.Rows L2
def NoD (h : Heap) (T : Addr) : Prop := ∃ o, h.get? T = some o ∧ o.dict = none
variable {prog : Program} {w : World} {A : Around} {I : Addr} {fp wr : List Addr} {n : Nat} {Pt : Nat → Array Value → Prop} {St : Nat → Heap → Prop} {Mid : Nat → Addr → Heap → Prop}
theorem goes_nd {elts : List Expr} {k : Nat} {pos : Pos} (W : WalksT prog w A I fp wr n Pt St Mid) (nd : ∀ i T h, Mid i T h → NoD h T) :
    GoesN prog w A (.Tuple elts k pos) I fp wr n (fun i h₀ v h => ∃ T vals, v = .ref T ∧ h₀.objs.size ≤ T ∧ Pt i vals ∧ h.IsTuple T vals ∧ NoD h T) St :=
  { (GoesN.ofWalksT (elts := elts) (k := k) (pos := pos) W) with
    goes := fun i s Q E hi st hQ => wpAny_with_toks (n := s.toks) (Nat.le_refl _) (W.item i s _ _ hi st fun T vals h1 tk hP hnew hT hm hk htk =>
      ⟨.ref T, rfl, W.go elts k pos i T { s with heap := h1, toks := tk } _ _ hm fun h2 st2 hk2 =>
        have at2 := fun o (e : h1.get? T = some o) => hk2 T o (W.apart i T h1 hm) e
        hQ (.ref T) h2 tk ⟨T, vals, rfl, hnew, hP, hT.at at2, let ⟨o, e, d⟩ := nd i T h1 hm; ⟨o, at2 o e, d⟩⟩ st2 (fun b o hb e => hk2 b o hb (hk b o hb e)) htk⟩) }
theorem walk_nd (W : WalksT prog w A I fp wr n Pt St Mid)
    (item : ∀ i (s : Shared) (Q : Option Value → Shared → Prop) (E : Value → Shared → Prop), i < n → St i s.heap →
      (∀ T vals h' tk, Pt i vals → s.heap.objs.size ≤ T → h'.IsTuple T vals → Mid i T h' ∧ NoD h' T → (∀ b o, b ∉ wr → s.heap.get? b = some o → h'.get? b = some o) → Q (some (.ref T)) { s with heap := h', toks := tk }) →
      wpAny (model prog w) A (pyNext (.ref I)) Q E s) : WalksT prog w A I fp wr n Pt St fun i T h => Mid i T h ∧ NoD h T :=
  { W with
    item := item
    go := fun elts k pos i T s Q E m => W.go elts k pos i T s Q E m.1
    apart := fun i T h m => W.apart i T h m.1 }
theorem enum_nd {elts : List Expr} {x1 : Nat} {pos : Pos} {it : Addr} {P : Nat → Value → Prop} (k₀ : Int) (D : Draws prog w A.in1 it fp n P St) (e : Addr) (hei : e ≠ it) (hef : e ∉ fp) (hif : it ∈ fp) :
    GoesN prog w A (.Tuple elts x1 pos) e (e :: fp) [e, it] n (fun i h₀ v h => ∃ T t x, v = .ref T ∧ h₀.objs.size ≤ T ∧ P i x ∧ h.IsTuple T #[.int (k₀ + (i : Int)) t, x] ∧ NoD h T) (fun i h => (∃ old, IsEnum h e it (k₀ + (i : Int)) old) ∧ St i h) :=
  (goes_nd (walk_nd (WalksT.enumFrom k₀ D e hei hef hif) fun i s Q E hi hst hQ => by
    obtain ⟨⟨old, he⟩, hs⟩ := hst
    refine wpAny_pyNext_enum_itemC D he hs hi hei hef fun x m tk hP ho hs' hT hsz hk => ?_
    have l1 : e < s.heap.objs.size := Heap.lt_size he
    have l2 : it < s.heap.objs.size := by obtain ⟨_, y⟩ := D.live _ _ hs; exact Heap.lt_size y
    refine hQ _ _ m (tk + 1) ⟨_, _, hP, rfl⟩ (Nat.le_refl _) ⟨_, hT, rfl, _, rfl⟩ ⟨⟨⟨_, ho⟩, hs', Nat.ne_of_gt l1, Nat.ne_of_gt l2⟩, _, hT, rfl⟩ fun b o hb y => hk b o (fun q => hb (by simp [q])) (fun q => hb (by simp [q])) y) fun i T h m => m.2).mono
    fun i h₀ v h _ ⟨T, vals, ev, hn, ⟨t, x, hx, evs⟩, hT, nd⟩ => ⟨T, t, x, ev, hn, hx, evs ▸ hT, nd⟩
theorem zip_nd {elts : List Expr} {x1 : Nat} {pos : Pos} {z TI TO i1 i2 : Addr} {fp1 fp2 : List Addr} {n1 n2 : Nat} {P1 P2 : Nat → Value → Prop} {St1 St2 : Nat → Heap → Prop} (S : ZipSep2 z TI TO i1 i2 fp1 fp2) (D1 : Draws prog w A.in1 i1 fp1 n1 P1 St1) (D2 : Draws prog w A.in1 i2 fp2 n2 P2 St2) :
    GoesN prog w A (.Tuple elts x1 pos) z (z :: TI :: TO :: (fp1 ++ fp2)) [z, TO, i1, i2] (min n1 n2) (fun i h₀ v h => ∃ T x y, v = .ref T ∧ h₀.objs.size ≤ T ∧ P1 i x ∧ P2 i y ∧ h.IsTuple T #[x, y] ∧ NoD h T)
      (fun i h => IsZip h z TI TO .none ∧ IsTupOf2 h TI (.ref i1) (.ref i2) ∧ (∃ a1 a2, IsTupOf2 h TO a1 a2) ∧ St1 i h ∧ St2 i h) :=
  (goes_nd (walk_nd (WalksT.zipD2 S D1 D2) fun i s Q E hi hst hQ => by
    obtain ⟨hz, hTI, ⟨a1, a2, hTO⟩, st1, st2⟩ := hst
    refine wpAny_pyNext_zipD2_item S D1 D2 hz hTI hTO st1 st2 (by omega) (by omega) fun x1 x2 m tk y1 y2 b1 b2 d1 d2 b5 b6 hk => ?_
    have ne : ∀ {c o}, s.heap.get? c = some o → s.heap.objs.size ≠ c := fun q => Nat.ne_of_gt (Heap.lt_size q)
    have l1 : s.heap.objs.size ≠ i1 := by obtain ⟨_, q⟩ := D1.live _ _ st1; exact ne q
    have l2 : s.heap.objs.size ≠ i2 := by obtain ⟨_, q⟩ := D2.live _ _ st2; exact ne q
    refine hQ _ #[x1, x2] m tk ⟨x1, x2, y1, y2, rfl⟩ (Nat.le_refl _) ⟨_, b5, rfl, _, rfl⟩ ⟨⟨b1, hk _ _ S.TIz S.TITO S.TIi1 S.TIi2 hTI, ⟨_, _, b2⟩, d1, d2, ne hz, ne hTO, l1, l2⟩, _, b5, rfl⟩ fun c o hc q => hk c o (fun x => hc (by simp [x])) (fun x => hc (by simp [x])) (fun x => hc (by simp [x])) (fun x => hc (by simp [x])) q) fun i T h m => m.2).mono
    fun i h₀ v h _ ⟨T, vals, ev, hn, ⟨x, y, hx, hy, evs⟩, hT, nd⟩ => ⟨T, x, y, ev, hn, hx, hy, evs ▸ hT, nd⟩
end Q
set_option Elab.async false
set_option linter.all false
set_option maxRecDepth 100000
set_option maxHeartbeats 4000000
namespace Q
open PySem PySem.Spec PyProof.Rows L2
abbrev Sl := List (Option V)

inductive D where
  | non | bl (b : Bool) | int (i : Int) | str (x : Str)
  | tup (xs : List D) | lst (xs : List D)
  /-- a list that is locked (the script), read and never written -/
  | frz (xs : List D)
  /-- a mutable list of the store -/
  | loc (n : Nat)
  /-- a built-in class -/
  | ty (n : String)
  /-- a dict by tuples of numbers, as data: its keys in order, what stands at them -/
  | dct (ks : List D) (ds : List D)
  /-- an error of an own class (its name in the main module), its fields' names, what they keep -/
  | exc (x : Str) (ns : List Str) (ds : List D)
abbrev Mu := List (List D)
inductive EV where
  | un | val (d : D) | own (ds : List D)
  /-- a dict that one slot owns -/
  | dic (ks : List D) (ds : List D)
abbrev En := List EV
structure Exn where
  cls : Nat
  fs : List (Str × D)
inductive Res (α : Type) where
  | ok (a : α) (μ : Mu) | exc (e : Exn) (μ : Mu) | bad
def Res.bind {α β : Type} (r : Res α) (f : α → Mu → Res β) : Res β :=
  match r with
  | .ok a μ => f a μ
  | .exc e μ => .exc e μ
  | .bad => .bad
inductive RV where
  | val (d : D) | own (i : Nat)
abbrev FE := En → Mu → Res RV
abbrev FA := En → Mu → Res (List D)
abbrev FT := En → Mu → Res Bool

mutual
/-- data as a key -/
def nkD : D → NestedKey
  | .int i => .num i
  | .str x => .text x
  | .tup ds => .tup (nksD ds)
  | _ => .none
def nksD : List D → List NestedKey
  | [] => []
  | d :: ds => nkD d :: nksD ds
end
mutual
/-- numbers, texts and tuples of such -/
def ikD : D → Bool
  | .int _ => true
  | .str x => PyData.strOk x
  | .tup ds => iksD ds
  | _ => false
def iksD : List D → Bool
  | [] => true
  | d :: ds => ikD d && iksD ds
end
def kOk1 : D → Bool
  | .tup ds => iksD ds && decide ((nkD (.tup ds)).depth ≤ 8)
  | _ => false
abbrev DctO (w : World) (a : Addr) (ks : List NestedKey) (bs : List Addr) (vs : List V) : HO := .ext fun h => ∃ us, Vals vs us ∧ (a == sysModules) = false ∧ bs.length = ks.length ∧ vs.length = ks.length ∧ ks.Nodup ∧ ks.length ≤ sizeLine ∧
  ∃ o es ep, h.get? a = some o ∧ o.ExactDict ∧ o.data = .dict es ep ∧ ∀ P : Program, es.toList = (ks.zip (bs.zip us)).map (entryOfKey (nestedKind P w))
def KDn (K : PySem.W.Frag) (G : Hp) (a : Addr) : Prop := (∃ o u, G a = some (.frz o u) ∧ o.dict = none) ∨ ∃ o, K.lookup a = some o ∧ o.dict = none
def SqTd (K : PySem.W.Frag) (G : Hp) (a : Addr) (xs : List V) : Prop := SqT K G a xs ∧ KDn K G a
mutual
inductive Dat (K : KW) (G : Hp) (L : List Addr) : V → D → Prop
  | non : Dat K G L .non .non
  | bl (b : Bool) : Dat K G L (.bl b) (.bl b)
  | int (i : Int) : Dat K G L (.int i) (.int i)
  | str (x : Str) : Dat K G L (.str x) (.str x)
  | ty (n : String) : Dat K G L (.ty n) (.ty n)
  | tup {a : Addr} {vs : List V} {ds : List D} : SqTd K G a vs → Dats K G L vs ds → Dat K G L (.ref a) (.tup ds)
  | lst {a : Addr} {vs : List V} {ds : List D} : G a = some (.lst vs) → Dats K G L vs ds → Dat K G L (.ref a) (.lst ds)
  | frz {a : Addr} {vs : List V} {ds : List D} : SqL K G a vs → Dats K G L vs ds → Dat K G L (.ref a) (.frz ds)
  | loc {a : Addr} {n : Nat} : L[n]? = some a → Dat K G L (.ref a) (.loc n)
  | dct {a : Addr} {bs : List Addr} {ws vs : List V} {ks ds : List D} : G a = some (DctO K.w a (nksD ks) bs vs) → ws = bs.map V.ref → ks.all kOk1 = true → Dats K G L ws ks → Dats K G L vs ds → Dat K G L (.ref a) (.dct ks ds)
  | exc {a C : Addr} {d : Option Addr} {x : Str} {ns : List Str} {vs : List V} {ds : List D} : PySem.W.nsIn K.toFrag mainGlobals x = some (some (.ref C)) → G a = some (exo a C d) → (d = none ∧ ns = [] ∨ ∃ dd, d = some dd ∧ G dd = some (exd dd (ns.zip vs))) → ns.length = vs.length → Dats K G L vs ds → Dat K G L (.ref a) (.exc x ns ds)
inductive Dats (K : KW) (G : Hp) (L : List Addr) : List V → List D → Prop
  | nil : Dats K G L [] []
  | cons {v : V} {d : D} {vs : List V} {ds : List D} : Dat K G L v d → Dats K G L vs ds → Dats K G L (v :: vs) (d :: ds)
end
def Sub (G H : Hp) : Prop := ∀ b o, G b = some o → H b = some o
theorem Sub.refl {G : Hp} : Sub G G := fun _ _ h => h
theorem Sub.trans {G H I : Hp} (a : Sub G H) (b : Sub H I) : Sub G I := fun x o h => b x o (a x o h)
theorem Sub.rd {G H : Hp} (s : Sub G H) {a : Addr} {u : HO} (h : Rd G a u) : Rd H a u := by
  rcases h with h | ⟨o, h⟩
  · exact .inl (s _ _ h)
  · exact .inr ⟨o, s _ _ h⟩
theorem Sub.sqT0 {K : PySem.W.Frag} {G H : Hp} (s : Sub G H) {a : Addr} {xs : List V} (h : SqT K G a xs) : SqT K H a xs := h.imp s.rd id
theorem Sub.sqT {K : PySem.W.Frag} {G H : Hp} (s : Sub G H) {a : Addr} {xs : List V} (h : SqTd K G a xs) : SqT K H a xs := s.sqT0 h.1
theorem Sub.sqTd {K : PySem.W.Frag} {G H : Hp} (s : Sub G H) {a : Addr} {xs : List V} (h : SqTd K G a xs) : SqTd K H a xs := ⟨s.sqT h, h.2.imp (fun ⟨o, u, e, d⟩ => ⟨o, u, s _ _ e, d⟩) id⟩
theorem SqTd.of {K : PySem.W.Frag} {H : Hp} {a : Addr} {xs : List V} {o : Obj} (h : H a = some (.frz o (.tup xs))) (d : o.dict = none) : SqTd K H a xs := ⟨.inl (.inr ⟨o, h⟩), .inl ⟨o, _, h, d⟩⟩
theorem Sub.sqL {K : PySem.W.Frag} {G H : Hp} (s : Sub G H) {a : Addr} {xs : List V} (h : SqL K G a xs) : SqL K H a xs := h.imp s.rd id
section
variable {K : KW} {G H : Hp} {L L' : List Addr}
mutual
theorem Dat.mono (s : Sub G H) (l : ∀ (n : Nat) (a : Addr), L[n]? = some a → L'[n]? = some a) : ∀ {v : V} {d : D}, Dat K G L v d → Dat K H L' v d
  | _, _, .non => .non
  | _, _, .bl b => .bl b
  | _, _, .int i => .int i
  | _, _, .str x => .str x
  | _, _, .ty n => .ty n
  | _, _, .tup h t => .tup (s.sqTd h) (Dats.mono s l t)
  | _, _, .lst h t => .lst (s _ _ h) (Dats.mono s l t)
  | _, _, .frz h t => .frz (s.sqL h) (Dats.mono s l t)
  | _, _, .loc h => .loc (l _ _ h)
  | _, _, .dct h e n k t => .dct (s _ _ h) e n (Dats.mono s l k) (Dats.mono s l t)
  | _, _, .exc n h f e t => .exc n (s _ _ h) (f.imp id fun ⟨dd, e1, e2⟩ => ⟨dd, e1, s _ _ e2⟩) e (Dats.mono s l t)
theorem Dats.mono (s : Sub G H) (l : ∀ (n : Nat) (a : Addr), L[n]? = some a → L'[n]? = some a) : ∀ {vs : List V} {ds : List D}, Dats K G L vs ds → Dats K H L' vs ds
  | _, _, .nil => .nil
  | _, _, .cons h t => .cons (Dat.mono s l h) (Dats.mono s l t)
end
theorem Dat.up (s : Sub G H) {v : V} {d : D} (h : Dat K G L v d) : Dat K H L v d := h.mono s fun _ _ e => e
theorem Dats.up (s : Sub G H) {vs : List V} {ds : List D} (h : Dats K G L vs ds) : Dats K H L vs ds := h.mono s fun _ _ e => e
abbrev DctI (a : Addr) (is : List Int) : HO := .ext fun h => (a == sysModules) = false ∧ is.length ≤ sizeLine ∧ ∀ (P : Program) (w : World), ∃ vs : List (L2.Key × Value), vs.map (·.1) = is.map Sum.inl ∧ (∀ p ∈ vs, p.2 = Value.bool true) ∧ h.DictOf (mixKind P w) a vs
def DicF (K : KW) (G : Hp) (L : List Addr) (a : Addr) (o : HO) (ks ds : List D) : Prop :=
  (∃ bs vs, o = DctO K.w a (nksD ks) bs vs ∧ ks.all kOk1 = true ∧ Dats K G L (bs.map V.ref) ks ∧ Dats K G L vs ds) ∨
  ∃ is : List Int, is ≠ [] ∧ o = DctI a is ∧ ks = is.map D.int ∧ ds = is.map fun _ => D.bl true
theorem DicF.up {a : Addr} {o : HO} {ks ds : List D} (s : Sub G H) (h : DicF K G L a o ks ds) : DicF K H L a o ks ds := by
  rcases h with ⟨bs, vs, h1, h2, h3, h4⟩ | h
  · exact .inl ⟨bs, vs, h1, h2, h3.up s, h4.up s⟩
  · exact .inr h
theorem DicF.mono {a : Addr} {o : HO} {ks ds : List D} (l : ∀ (n : Nat) (a : Addr), L[n]? = some a → L'[n]? = some a) (h : DicF K G L a o ks ds) : DicF K G L' a o ks ds := by
  rcases h with ⟨bs, vs, h1, h2, h3, h4⟩ | h
  · exact .inl ⟨bs, vs, h1, h2, h3.mono Sub.refl l, h4.mono Sub.refl l⟩
  · exact .inr h
theorem DicF.tup {a : Addr} {o : HO} {ks ds : List D} (h : DicF K G L a o ks ds) (k : ks.all kOk1 = true) : ∃ bs vs, o = DctO K.w a (nksD ks) bs vs ∧ Dats K G L (bs.map V.ref) ks ∧ Dats K G L vs ds := by
  rcases h with ⟨bs, vs, h1, h2, h3, h4⟩ | ⟨is, h1, h2, h3, h4⟩
  · exact ⟨bs, vs, h1, h3, h4⟩
  · subst h3
    cases is with
    | nil => exact absurd rfl h1
    | cons i is => simp [kOk1] at k
theorem Dats.length : ∀ {vs : List V} {ds : List D}, Dats K G L vs ds → vs.length = ds.length
  | _, _, .nil => rfl
  | _, _, .cons _ t => congrArg (· + 1) (Dats.length t)
theorem Dats.append : ∀ {vs ws : List V} {ds es : List D}, Dats K G L vs ds → Dats K G L ws es → Dats K G L (vs ++ ws) (ds ++ es)
  | _, _, _, _, .nil, t => t
  | _, _, _, _, .cons h r, t => .cons h (Dats.append r t)
theorem Dats.get : ∀ {vs : List V} {ds : List D} {i : Nat} {d : D}, Dats K G L vs ds → ds[i]? = some d → ∃ v, vs[i]? = some v ∧ Dat K G L v d
  | _, _, _, _, .nil, e => by simp at e
  | _, _, 0, _, .cons h _, e => by simp at e; subst e; exact ⟨_, rfl, h⟩
  | _, _, i + 1, d, .cons _ t, e => by
    obtain ⟨v, h1, h2⟩ := Dats.get (i := i) (d := d) t (by simpa using e)
    exact ⟨v, by simpa using h1, h2⟩
theorem Dats.getV : ∀ {vs : List V} {ds : List D} {i : Nat} {v : V}, Dats K G L vs ds → vs[i]? = some v → ∃ d, ds[i]? = some d ∧ Dat K G L v d
  | _, _, _, _, .nil, e => by simp at e
  | _, _, 0, _, .cons h _, e => by simp at e; subst e; exact ⟨_, rfl, h⟩
  | _, _, i + 1, v, .cons _ t, e => by
    obtain ⟨d, h1, h2⟩ := Dats.getV (i := i) (v := v) t (by simpa using e)
    exact ⟨d, by simpa using h1, h2⟩
theorem Dats.take : ∀ (n : Nat) {vs : List V} {ds : List D}, Dats K G L vs ds → Dats K G L (vs.take n) (ds.take n)
  | 0, _, _, _ => .nil
  | _ + 1, _, _, .nil => .nil
  | n + 1, _, _, .cons h t => .cons h (Dats.take n t)
theorem Dats.drop : ∀ (n : Nat) {vs : List V} {ds : List D}, Dats K G L vs ds → Dats K G L (vs.drop n) (ds.drop n)
  | 0, _, _, h => h
  | _ + 1, _, _, .nil => .nil
  | n + 1, _, _, .cons _ t => Dats.drop n t
theorem Dats.set {v : V} {d : D} (h : Dat K G L v d) : ∀ (n : Nat) {vs : List V} {ds : List D}, Dats K G L vs ds → Dats K G L (vs.set n v) (ds.set n d)
  | _, _, _, .nil => .nil
  | 0, _, _, .cons _ t => .cons h t
  | n + 1, _, _, .cons q t => .cons q (Dats.set h n t)
theorem Dats.reverse {vs : List V} {ds : List D} (h : Dats K G L vs ds) : Dats K G L vs.reverse ds.reverse := by
  induction vs generalizing ds with
  | nil => cases h; exact .nil
  | cons v vs ih =>
    cases h with
    | cons h t =>
      rw [List.reverse_cons, List.reverse_cons]
      exact (ih t).append (.cons h .nil)
theorem Dats.rep {vs : List V} {ds : List D} (h : Dats K G L vs ds) : ∀ k : Nat, Dats K G L (List.replicate k vs).flatten (List.replicate k ds).flatten
  | 0 => .nil
  | k + 1 => h.append (Dats.rep h k)
end
theorem nt_upd {G : Hp} {p b : Addr} {o u : HO} (h : ∀ b o, G b = some o → TOk o) (ho : TOk o) (e : upd G p o b = some u) : TOk u := by
  by_cases z : b = p
  · subst z; rw [upd_same] at e; cases e; exact ho
  · rw [upd_ne z] at e; exact h b u e
theorem sub_upd {H : Hp} {p : Addr} {o : HO} (h : H p = none) : Sub H (upd H p o) := fun b x e => by
  rw [upd_ne (ne_of_none e h)]
  exact e

structure Fx where
  K : KW
  L : List Addr
  H0 : Hp
  G0 : Hp
  C : Nat → Addr
structure RRel (c : Fx) (H G : Hp) (μ : Mu) : Prop where
  sub : Sub G H
  nd : c.L.Nodup
  len : c.L.length = μ.length
  loc : ∀ (n : Nat) (a : Addr) (ds : List D), c.L[n]? = some a → μ[n]? = some ds → G a = none ∧ ∃ vs, H a = some (.lst vs) ∧ Dats c.K G c.L vs ds
  keep : ∀ b o, c.H0 b = some o → b ∉ c.L → H b = some o
  gg : Sub c.G0 G
  newG : ∀ b o, G b = some o → c.G0 b = some o ∨ (c.H0 b = none ∧ b ∉ c.L)
  nt : ∀ b o, G b = some o → TOk o
structure FRel (c : Fx) (σ : Sl) (H G : Hp) (env : En) (μ : Mu) : Prop extends RRel c H G μ where
  val : ∀ (i : Nat) (d : D), env[i]? = some (.val d) → ∃ v, σ[i]? = some (some v) ∧ Dat c.K G c.L v d
  own : ∀ (i : Nat) (ds : List D), env[i]? = some (.own ds) → ∃ a vs, σ[i]? = some (some (.ref a)) ∧ H a = some (.lst vs) ∧ G a = none ∧ a ∉ c.L ∧ c.H0 a = none ∧ Dats c.K G c.L vs ds
  inj : ∀ (i j : Nat) (ds es : List D) (a : Addr), env[i]? = some (.own ds) → env[j]? = some (.own es) → σ[i]? = some (some (.ref a)) → σ[j]? = some (some (.ref a)) → i = j
  el : env.length = σ.length
  dic : ∀ (i : Nat) (ks : List D) (ds : List D), env[i]? = some (.dic ks ds) → ∃ a φ, σ[i]? = some (some (.ref a)) ∧ H a = some (.ext φ) ∧ DicF c.K G c.L a (.ext φ) ks ds ∧ G a = none ∧ a ∉ c.L ∧ c.H0 a = none
  dj : ∀ (i j : Nat) (ks js : List D) (ds es : List D) (a : Addr), env[i]? = some (.dic ks ds) → env[j]? = some (.dic js es) → σ[i]? = some (some (.ref a)) → σ[j]? = some (some (.ref a)) → i = j
theorem FRel.dics {c : Fx} {σ σ' : Sl} {H G H' G' : Hp} {env env' : En} {μ : Mu} (R : FRel c σ H G env μ) (h1 : ∀ (i : Nat) (ks : List D) (ds : List D), env'[i]? = some (.dic ks ds) → env[i]? = some (.dic ks ds) ∧ σ'[i]? = σ[i]?)
    (hH : ∀ b φ, H b = some (.ext φ) → b ∉ c.L → H' b = some (.ext φ)) (hG : ∀ b φ, H b = some (.ext φ) → G b = none → G' b = none) (gg : Sub G G') :
    (∀ (i : Nat) (ks : List D) (ds : List D), env'[i]? = some (.dic ks ds) → ∃ a φ, σ'[i]? = some (some (.ref a)) ∧ H' a = some (.ext φ) ∧ DicF c.K G' c.L a (.ext φ) ks ds ∧ G' a = none ∧ a ∉ c.L ∧ c.H0 a = none) ∧
    (∀ (i j : Nat) (ks js : List D) (ds es : List D) (a : Addr), env'[i]? = some (.dic ks ds) → env'[j]? = some (.dic js es) → σ'[i]? = some (some (.ref a)) → σ'[j]? = some (some (.ref a)) → i = j) := by
  refine ⟨fun i ks ds e => ?_, fun i j ks js ds es a e1 e2 s1 s2 => ?_⟩
  · obtain ⟨e, s⟩ := h1 i ks ds e
    obtain ⟨a, φ, z1, z2, zf, z4, z5, z6⟩ := R.dic i ks ds e
    exact ⟨a, φ, s.trans z1, hH a _ z2 z5, zf.up gg, hG a _ z2 z4, z5, z6⟩
  · obtain ⟨e1, t1⟩ := h1 i ks ds e1
    obtain ⟨e2, t2⟩ := h1 j js es e2
    exact R.dj i j ks js ds es a e1 e2 (t1 ▸ s1) (t2 ▸ s2)
structure Ext (L : List Addr) (H G H' G' : Hp) : Prop where
  keep : ∀ b o, H b = some o → b ∉ L → H' b = some o
  gg : Sub G G'
  newG : ∀ b o, G' b = some o → G b = some o ∨ (H b = none ∧ b ∉ L)
theorem Ext.refl {L : List Addr} {H G : Hp} : Ext L H G H G := ⟨fun _ _ h _ => h, Sub.refl, fun _ _ h => .inl h⟩
theorem Ext.trans {L : List Addr} {H G H1 G1 H2 G2 : Hp} (a : Ext L H G H1 G1) (b : Ext L H1 G1 H2 G2) : Ext L H G H2 G2 :=
  ⟨fun x o h n => b.keep x o (a.keep x o h n) n, a.gg.trans b.gg, fun x o h => by
    rcases b.newG x o h with q | ⟨q, n⟩
    · exact a.newG x o q
    · refine .inr ⟨?_, n⟩
      cases e : H x with
      | none => rfl
      | some u => rw [a.keep x u e n] at q; cases q⟩

section
variable {c : Fx} {σ : Sl} {H G H' G' : Hp} {env : En} {μ : Mu}
theorem RRel.lk (R : RRel c H G μ) {a : Addr} (h : a ∈ c.L) : ∃ vs, H a = some (.lst vs) := by
  obtain ⟨n, hn, e⟩ := List.mem_iff_getElem.mp h
  have h1 : c.L[n]? = some a := by rw [List.getElem?_eq_getElem hn, e]
  have h2 : n < μ.length := by rw [← R.len]; exact hn
  obtain ⟨_, vs, q, _⟩ := R.loc n a μ[n] h1 (List.getElem?_eq_getElem h2)
  exact ⟨vs, q⟩
theorem RRel.fresh (R : RRel c H G μ) {a : Addr} (h : H a = none) : c.H0 a = none ∧ a ∉ c.L ∧ G a = none := by
  have hl : a ∉ c.L := fun m => by
    obtain ⟨vs, q⟩ := R.lk m
    rw [h] at q; cases q
  refine ⟨?_, hl, ?_⟩
  · cases e : c.H0 a with
    | none => rfl
    | some u => rw [R.keep a u e hl] at h; cases h
  · cases e : G a with
    | none => rfl
    | some u => rw [R.sub a u e] at h; cases h
theorem RRel.grow (R : RRel c H G μ) (hh : Sub H H') (gg : Sub G G') (sub : Sub G' H') (new : ∀ b o, G' b = some o → G b = some o ∨ (H b = none ∧ TOk o)) : RRel c H' G' μ ∧ Ext c.L H G H' G' := by
  have gn : ∀ b o, G' b = some o → G b = some o ∨ (H b = none ∧ b ∉ c.L) := fun b o e => (new b o e).imp id fun q => ⟨q.1, (R.fresh q.1).2.1⟩
  refine ⟨⟨sub, R.nd, R.len, fun n a ds h1 h2 => ?_, fun b o e n => hh b o (R.keep b o e n), R.gg.trans gg, fun b o e => ?_, fun b o e => (new b o e).elim (R.nt b o) (·.2)⟩, ⟨fun b o e _ => hh b o e, gg, gn⟩⟩
  · obtain ⟨g, vs, q, d⟩ := R.loc n a ds h1 h2
    refine ⟨?_, vs, hh _ _ q, d.up gg⟩
    cases e : G' a with
    | none => rfl
    | some u =>
      rcases new a u e with z | ⟨z, _⟩
      · rw [g] at z; cases z
      · rw [q] at z; cases z
  · rcases new b o e with z | ⟨z, _⟩
    · exact R.newG b o z
    · have f := R.fresh z
      exact .inr ⟨f.1, f.2.1⟩
theorem FRel.grow (R : FRel c σ H G env μ) (hh : Sub H H') (gg : Sub G G') (sub : Sub G' H') (new : ∀ b o, G' b = some o → G b = some o ∨ (H b = none ∧ TOk o)) : FRel c σ H' G' env μ ∧ Ext c.L H G H' G' := by
  obtain ⟨r, x⟩ := R.toRRel.grow hh gg sub new
  refine ⟨⟨r, fun i d e => ?_, fun i ds e => ?_, R.inj, R.el, fun i ks ds e => ?_, R.dj⟩, x⟩
  · obtain ⟨v, h, q⟩ := R.val i d e
    exact ⟨v, h, q.up gg⟩
  · obtain ⟨a, vs, h1, h2, h3, h4, h5, h6⟩ := R.own i ds e
    refine ⟨a, vs, h1, hh _ _ h2, ?_, h4, h5, h6.up gg⟩
    cases e : G' a with
    | none => rfl
    | some u =>
      rcases new a u e with z | ⟨z, _⟩
      · rw [h3] at z; cases z
      · rw [h2] at z; cases z
  · obtain ⟨a, φ, h1, h2, hf, h3, h4, h5⟩ := R.dic i ks ds e
    refine ⟨a, φ, h1, hh _ _ h2, hf.up gg, ?_, h4, h5⟩
    cases e : G' a with
    | none => rfl
    | some u =>
      rcases new a u e with z | ⟨z, _⟩
      · rw [h3] at z; cases z
      · rw [h2] at z; cases z
theorem FRel.newG' (R : FRel c σ H G env μ) {p : Addr} {o : HO} (hp : H p = none) (ho : TOk o) : FRel c σ (upd H p o) (upd G p o) env μ ∧ Ext c.L H G (upd H p o) (upd G p o) := by
  have hg := (R.fresh hp).2.2
  refine R.grow (sub_upd hp) (sub_upd hg) (fun b u e => ?_) fun b u e => ?_
  · by_cases h : b = p
    · subst h; rw [upd_same] at e ⊢; exact e
    · rw [upd_ne h] at e ⊢; exact R.sub b u e
  · by_cases h : b = p
    · subst h; rw [upd_same] at e; cases e; exact .inr ⟨hp, ho⟩
    · rw [upd_ne h] at e; exact .inl e
theorem FRel.newH (R : FRel c σ H G env μ) {p : Addr} {o : HO} (hp : H p = none) : FRel c σ (upd H p o) G env μ ∧ Ext c.L H G (upd H p o) G :=
  R.grow (sub_upd hp) Sub.refl (R.sub.trans (sub_upd hp)) fun _ _ e => .inl e

theorem FRel.freeze (R : FRel c σ H G env μ) {a : Addr} {vs : List V} (h1 : H a = some (.lst vs)) (h2 : G a = none) (h3 : a ∉ c.L) (h4 : c.H0 a = none) (ho : ∀ (i : Nat) (ds : List D), env[i]? = some (.own ds) → σ[i]? ≠ some (some (.ref a))) : FRel c σ H (upd G a (.lst vs)) env μ := by
  have g : Sub G (upd G a (.lst vs)) := sub_upd h2
  refine ⟨⟨fun b o e => ?_, R.nd, R.len, fun n b ds e1 e2 => ?_, R.keep, R.gg.trans g, fun b o e => ?_, fun b o e => nt_upd (o := .lst vs) R.nt True.intro e⟩, fun i d e => ?_, fun i ds e => ?_, R.inj, R.el, fun i ks ds e => ?_, R.dj⟩
  · by_cases h : b = a
    · subst h; rw [upd_same] at e; rw [h1]; exact e
    · rw [upd_ne h] at e; exact R.sub b o e
  · obtain ⟨q1, ws, q2, q3⟩ := R.loc n b ds e1 e2
    have hb : b ≠ a := fun z => h3 (z ▸ List.mem_of_getElem? e1)
    exact ⟨by rw [upd_ne hb]; exact q1, ws, q2, q3.up g⟩
  · by_cases h : b = a
    · subst h; exact .inr ⟨h4, h3⟩
    · rw [upd_ne h] at e; exact R.newG b o e
  · obtain ⟨v, q1, q2⟩ := R.val i d e
    exact ⟨v, q1, q2.up g⟩
  · obtain ⟨b, ws, q1, q2, q3, q4, q5, q6⟩ := R.own i ds e
    have hb : b ≠ a := fun z => ho i ds e (z ▸ q1)
    exact ⟨b, ws, q1, q2, by rw [upd_ne hb]; exact q3, q4, q5, q6.up g⟩
  · obtain ⟨b, φ, q1, q2, qf, q3, q4, q5⟩ := R.dic i ks ds e
    have hb : b ≠ a := fun z => by rw [z, h1] at q2; cases q2
    exact ⟨b, φ, q1, q2, qf.up g, by rw [upd_ne hb]; exact q3, q4, q5⟩

def DatX (c : Fx) (G : Hp) (σ : Sl) (v : V) : RV → Prop
  | .val d => Dat c.K G c.L v d
  | .own i => σ[i]? = some (some v)
theorem DatX.up (s : Sub G G') {v : V} {d : RV} (h : DatX c G σ v d) : DatX c G' σ v d := by
  cases d with
  | val d => exact Dat.up s h
  | own i => exact h
def XDat (c : Fx) (H G : Hp) (cls : Value) (d : Option Addr) (x : Exn) : Prop :=
  cls = .ref (c.C x.cls) ∧ ∃ fs : List (Str × V), fs.map (·.1) = x.fs.map (·.1) ∧ Dats c.K G c.L (fs.map (·.2)) (x.fs.map (·.2)) ∧ ((d = none ∧ x.fs = []) ∨ ∃ dd, d = some dd ∧ x.fs ≠ [] ∧ H dd = some (.xd fs))
def tG {α β : Type} (c : Fx) (W : WX) (σ : Sl) (H G : Hp) (env : En) (R : Hp → Hp → β → α → Prop) (r : Res α) (Q : β → Hp → Prop) : Prop :=
  match r with
  | .ok a μ => ∀ v H' G', Ext c.L H G H' G' → FRel c σ H' G' env μ → R H' G' v a → Q v H'
  | .exc x μ => ∀ cls d H' G', Ext c.L H G H' G' → FRel c σ H' G' env μ → XDat c H' G' cls d x → W cls d σ H'
  | .bad => False
variable {W : WX} {α β γ δ : Type} {R : Hp → Hp → β → α → Prop} {R' : Hp → Hp → δ → γ → Prop}
theorem tG.imp {R₁ : Hp → Hp → β → α → Prop} {r : Res α} {Q Q' : β → Hp → Prop} (h : tG c W σ H G env R r Q) (hr : ∀ H' G' v a, R₁ H' G' v a → R H' G' v a) (hq : ∀ v H', Q v H' → Q' v H') : tG c W σ H G env R₁ r Q' := by
  cases r with
  | ok a μ => exact fun v H' G' x f d => hq _ _ (h v H' G' x f (hr _ _ _ _ d))
  | exc e μ => exact h
  | bad => exact h
theorem tG.shift {H1 G1 : Hp} {r : Res α} {Q : β → Hp → Prop} (x : Ext c.L H G H1 G1) (h : tG c W σ H G env R r Q) : tG c W σ H1 G1 env R r Q := by
  cases r with
  | ok a μ => exact fun v H' G' y f d => h v H' G' (x.trans y) f d
  | exc e μ => exact fun cls d H' G' y f q => h cls d H' G' (x.trans y) f q
  | bad => exact h
theorem tG.bind {r : Res α} {g : α → Mu → Res γ} {Q : δ → Hp → Prop} (h : tG c W σ H G env R' (r.bind g) Q) :
    tG c W σ H G env (fun H1 G1 v a => R H1 G1 v a) r (fun (v : β) H1 => ∃ G1 μ1 a, Ext c.L H G H1 G1 ∧ FRel c σ H1 G1 env μ1 ∧ R H1 G1 v a ∧ tG c W σ H1 G1 env R' (g a μ1) Q) := by
  cases r with
  | ok a μ => exact fun v H' G' x f d => ⟨G', μ, a, x, f, d, tG.shift x h⟩
  | exc e μ => exact h
  | bad => exact h
theorem tG.now {v : β} {a : α} {μ' : Mu} {Q : β → Hp → Prop} (h : tG c W σ H G env R (.ok a μ') Q) {H' G' : Hp} (x : Ext c.L H G H' G') (f : FRel c σ H' G' env μ') (r : R H' G' v a) : Q v H' := h v H' G' x f r
end
def RX (c : Fx) (σ : Sl) : Hp → Hp → V → RV → Prop := fun _ G v d => DatX c G σ v d
def RXs (c : Fx) : Hp → Hp → List V → List D → Prop := fun _ G v d => Dats c.K G c.L v d
def RB : Hp → Hp → Bool → Bool → Prop := fun _ _ v d => v = d
def RF (c : Fx) (H : Hp) : Hp → Hp → V → RV → Prop := fun H' G' v d => ∃ a vs ds, v = .ref a ∧ d = .val (.lst ds) ∧ H' a = some (.lst vs) ∧ G' a = none ∧ a ∉ c.L ∧ H a = none ∧ Dats c.K G' c.L vs ds
def tE (c : Fx) (W : WX) (f : FE) : TE := fun σ H Q => ∃ G env μ, FRel c σ H G env μ ∧ tG c W σ H G env (RX c σ) (f env μ) Q
def tA (c : Fx) (W : WX) (f : FA) : TA := fun σ H Q => ∃ G env μ, FRel c σ H G env μ ∧ tG c W σ H G env (RXs c) (f env μ) Q
def tT (c : Fx) (W : WX) (f : FT) : TT := fun σ H Q => ∃ G env μ, FRel c σ H G env μ ∧ tG c W σ H G env RB (f env μ) Q
def tN (c : Fx) (W : WX) (f : FE) : TE := fun σ H Q => ∃ G env μ, FRel c σ H G env μ ∧ tG c W σ H G env (RF c H) (f env μ) Q
abbrev DE (X : Cx) (c : Fx) (W : WX) (e : Expr) (f : FE) : Prop := PE X e (tE c W f)
abbrev DA (X : Cx) (c : Fx) (W : WX) (es : List Expr) (f : FA) : Prop := PA X es (tA c W f)
abbrev DT (X : Cx) (c : Fx) (W : WX) (e : Expr) (f : FT) : Prop := PT X e (tT c W f)
abbrev DN (X : Cx) (c : Fx) (W : WX) (e : Expr) (f : FE) : Prop := PE X e (tN c W f)
theorem PE.of {X : Cx} {e : Expr} {t t' : TE} (h : PE X e t) (i : ∀ σ H Q, t' σ H Q → t σ H Q) : PE X e t' := ⟨fun pins s σ H Q I q => h.run pins s σ H Q I (i σ H Q q)⟩
theorem PT.of {X : Cx} {e : Expr} {t t' : TT} (h : PT X e t) (i : ∀ σ H Q, t' σ H Q → t σ H Q) : PT X e t' := ⟨fun pins s σ H Q I q => h.run pins s σ H Q I (i σ H Q q)⟩
theorem PW.of {X : Cx} {e : Expr} {t t' : TT} (h : PW X e t) (i : ∀ σ H Q, t' σ H Q → t σ H Q) : PW X e t' := ⟨fun w pins s σ H Q I q => h.run w pins s σ H Q I (i σ H Q q)⟩
theorem PA.of {X : Cx} {e : List Expr} {t t' : TA} (h : PA X e t) (i : ∀ σ H Q, t' σ H Q → t σ H Q) : PA X e t' := ⟨fun po pins s σ H Q I q => h.run po pins s σ H Q I (i σ H Q q)⟩
theorem PS.of {X : Cx} {e : Stmt} {t t' : TS} (h : PS X e t) (i : ∀ D σ H, t' D σ H → t D σ H) : PS X e t' := ⟨fun pins s σ H D I q => h.run pins s σ H D I (i D σ H q)⟩
theorem PSs.of {X : Cx} {e : List Stmt} {t t' : TS} (h : PSs X e t) (i : ∀ D σ H, t' D σ H → t D σ H) : PSs X e t' := ⟨fun pins s σ H D I q => h.run pins s σ H D I (i D σ H q)⟩
theorem RF.base {c : Fx} {H G H1 G1 H' G' : Hp} (x : Ext c.L H G H1 G1) {v : V} {d : RV} (h : RF c H1 H' G' v d) : RF c H H' G' v d := by
  obtain ⟨a, vs, ds, e1, e2, h1, h2, h3, h4, h5⟩ := h
  refine ⟨a, vs, ds, e1, e2, h1, h2, h3, ?_, h5⟩
  cases e : H a with
  | none => rfl
  | some u => rw [x.keep a u e h3] at h4; cases h4
theorem FRel.freezeF {c : Fx} {σ : Sl} {H G H' G' : Hp} {env : En} {μ μ' : Mu} {a : Addr} {vs : List V} (R : FRel c σ H G env μ) (F : FRel c σ H' G' env μ') (h1 : H' a = some (.lst vs)) (h2 : G' a = none) (h3 : a ∉ c.L) (h4 : H a = none) : FRel c σ H' (upd G' a (.lst vs)) env μ' := by
  refine F.freeze h1 h2 h3 (R.toRRel.fresh h4).1 fun i es e z => ?_
  obtain ⟨b, ws, q1, q2, _⟩ := R.own i es e
  rw [q1] at z
  have z' : b = a := by injection z with z; injection z with z; injection z
  rw [z', h4] at q2; cases q2
theorem FRel.freezeO {c : Fx} {σ : Sl} {H G : Hp} {env : En} {μ : Mu} (R : FRel c σ H G env μ) {a : Addr} {o : HO} (ht : TOk o) (h1 : H a = some o) (h2 : G a = none) (h3 : a ∉ c.L) (h4 : c.H0 a = none) (ho : ∀ (i : Nat) (ds : List D), env[i]? = some (.own ds) → σ[i]? ≠ some (some (.ref a)))
    (hd : ∀ (i : Nat) (ks : List D) (ds : List D), env[i]? = some (.dic ks ds) → σ[i]? ≠ some (some (.ref a))) : FRel c σ H (upd G a o) env μ := by
  have g : Sub G (upd G a o) := sub_upd h2
  refine ⟨⟨fun b u e => ?_, R.nd, R.len, fun n b ds e1 e2 => ?_, R.keep, R.gg.trans g, fun b u e => ?_, fun b u e => nt_upd R.nt ht e⟩, fun i d e => ?_, fun i ds e => ?_, R.inj, R.el, fun i ks ds e => ?_, R.dj⟩
  · by_cases h : b = a
    · subst h; rw [upd_same] at e; rw [h1]; exact e
    · rw [upd_ne h] at e; exact R.sub b u e
  · obtain ⟨q1, ws, q2, q3⟩ := R.loc n b ds e1 e2
    have hb : b ≠ a := fun z => h3 (z ▸ List.mem_of_getElem? e1)
    exact ⟨by rw [upd_ne hb]; exact q1, ws, q2, q3.up g⟩
  · by_cases h : b = a
    · subst h; exact .inr ⟨h4, h3⟩
    · rw [upd_ne h] at e; exact R.newG b u e
  · obtain ⟨v, q1, q2⟩ := R.val i d e
    exact ⟨v, q1, q2.up g⟩
  · obtain ⟨b, ws, q1, q2, q3, q4, q5, q6⟩ := R.own i ds e
    have hb : b ≠ a := fun z => ho i ds e (z ▸ q1)
    exact ⟨b, ws, q1, q2, by rw [upd_ne hb]; exact q3, q4, q5, q6.up g⟩
  · obtain ⟨b, φ, q1, q2, qf, q3, q4, q5⟩ := R.dic i ks ds e
    have hb : b ≠ a := fun z => hd i ks ds e (z ▸ q1)
    exact ⟨b, φ, q1, q2, qf.up g, by rw [upd_ne hb]; exact q3, q4, q5⟩
theorem FRel.freezeFO {c : Fx} {σ : Sl} {H G H' G' : Hp} {env : En} {μ μ' : Mu} {a : Addr} {o : HO} (R : FRel c σ H G env μ) (F : FRel c σ H' G' env μ') (ht : TOk o) (h1 : H' a = some o) (h2 : G' a = none) (h3 : a ∉ c.L) (h4 : H a = none) : FRel c σ H' (upd G' a o) env μ' := by
  refine F.freezeO ht h1 h2 h3 (R.toRRel.fresh h4).1 (fun i es e z => ?_) fun i ks es e z => ?_
  · obtain ⟨b, ws, q1, q2, _⟩ := R.own i es e
    rw [q1] at z
    have z' : b = a := by injection z with z; injection z with z; injection z
    rw [z', h4] at q2; cases q2
  · obtain ⟨b, φ, q1, q2, _⟩ := R.dic i ks es e
    rw [q1] at z
    have z' : b = a := by injection z with z; injection z with z; injection z
    rw [z', h4] at q2; cases q2
theorem tN.frz {c : Fx} {W : WX} {f : FE} {σ : Sl} {H : Hp} {Q : VK} (h : tE c W f σ H Q) : tN c W f σ H Q := by
  obtain ⟨G, env, μ, R, h⟩ := h
  refine ⟨G, env, μ, R, ?_⟩
  cases e : f env μ with
  | ok d μ' =>
    rw [e] at h
    intro v H' G' x F ⟨a, vs, ds, ev, ed, h1, h2, h3, h4, h5⟩
    subst ev ed
    have g : Sub G' (upd G' a (.lst vs)) := sub_upd h2
    refine h _ H' (upd G' a (.lst vs)) ⟨x.keep, x.gg.trans g, fun b o e => ?_⟩ (R.freezeF F h1 h2 h3 h4) (Dat.lst upd_same (h5.up g))
    by_cases hb : b = a
    · subst hb; exact .inr ⟨h4, h3⟩
    · rw [upd_ne hb] at e; exact x.newG b o e
  | exc z μ' => rw [e] at h; exact h
  | bad => rw [e] at h; exact h
theorem DN.de {X : Cx} {c : Fx} {W : WX} {e : Expr} {f : FE} (h : DN X c W e f) : DE X c W e f := PE.of h fun _ _ _ q => tN.frz q

inductive SqD where
  | tup (ds : List D) | lst (ds : List D)
def SqD.items : SqD → List D
  | .tup ds => ds
  | .lst ds => ds
def sq (env : En) (μ : Mu) : RV → Option SqD
  | .val (.tup ds) => some (.tup ds)
  | .val (.lst ds) => some (.lst ds)
  | .val (.frz ds) => some (.lst ds)
  | .val (.loc n) => (μ[n]?).map SqD.lst
  | .own i => match env[i]? with | some (.own ds) => some (.lst ds) | _ => none
  | _ => none
def sqM (env : En) (μ : Mu) : RV → Option (List D)
  | .val (.lst ds) => some ds
  | .val (.loc n) => μ[n]?
  | .own i => match env[i]? with | some (.own ds) => some ds | _ => none
  | _ => none
section
variable {c : Fx} {σ : Sl} {H G : Hp} {env : En} {μ : Mu} {x : V} {dx : RV} {ds : List D}
theorem sqM_at (R : FRel c σ H G env μ) (d : DatX c G σ x dx) (e : sqM env μ dx = some ds) : ∃ a vs, x = .ref a ∧ H a = some (.lst vs) ∧ Dats c.K G c.L vs ds := by
  unfold sqM at e
  split at e
  · cases e
    cases d with
    | lst h t => exact ⟨_, _, rfl, R.sub _ _ h, t⟩
  · rename_i n
    cases d with
    | loc h =>
      obtain ⟨_, vs, h1, h2⟩ := R.loc n _ ds h e
      exact ⟨_, vs, rfl, h1, h2⟩
  · rename_i i
    split at e
    · rename_i es ee
      cases e
      obtain ⟨a, vs, h1, h2, _, _, _, h3⟩ := R.own i ds ee
      have d' : σ[i]? = some (some x) := d
      rw [h1] at d'
      injection d' with d'
      injection d' with d'
      exact ⟨a, vs, d'.symm, h2, h3⟩
    · cases e
  · cases e
theorem sq_lst (R : FRel c σ H G env μ) (d : DatX c G σ x dx) (e : sq env μ dx = some (.lst ds)) : ∃ a vs, x = .ref a ∧ SqL c.K H a vs ∧ Dats c.K G c.L vs ds := by
  have go : sqM env μ dx = some ds → ∃ a vs, x = .ref a ∧ SqL c.K H a vs ∧ Dats c.K G c.L vs ds := fun q => by
    obtain ⟨a, vs, h1, h2, h3⟩ := sqM_at R d q
    exact ⟨a, vs, h1, SqL.of h2, h3⟩
  unfold sq at e
  split at e
  · cases e
  · cases e; exact go rfl
  · cases e
    cases d with
    | frz h t => exact ⟨_, _, rfl, R.sub.sqL h, t⟩
  · rename_i n
    refine go ?_
    show μ[n]? = some ds
    cases q : μ[n]? with
    | none => rw [q] at e; cases e
    | some es => rw [q] at e; cases e; rfl
  · rename_i i
    refine go ?_
    show (match env[i]? with | some (.own ds) => some ds | _ => none) = some ds
    split at e
    · rename_i es ee
      cases e
      rfl
    · cases e
  · cases e
theorem sq_tup (d : DatX c G σ x dx) (e : sq env μ dx = some (.tup ds)) : ∃ a vs, x = .ref a ∧ SqTd c.K G a vs ∧ Dats c.K G c.L vs ds := by
  unfold sq at e
  split at e
  · cases e
    cases d with
    | tup h t => exact ⟨_, _, rfl, h, t⟩
  · cases e
  · cases e
  · rename_i n
    cases q : μ[n]? with
    | none => rw [q] at e; cases e
    | some es => rw [q] at e; cases e
  · split at e <;> cases e
  · cases e
end
end Q
set_option Elab.async false
set_option linter.all false
set_option maxRecDepth 100000
set_option maxHeartbeats 4000000
namespace Q
open PySem PySem.Spec PyProof.Rows L2
def LIM : Nat := 16777216
theorem LIM_eq : LIM = sizeLine := by rw [sizeLine_eq]; rfl
def fVar (i : Nat) : FE := fun env μ => match env[i]? with
  | some (.val d) => .ok (.val d) μ
  | some (.own _) => .ok (.own i) μ
  | some (.dic _ _) => .ok (.own i) μ
  | _ => .bad
def fC (d : D) : FE := fun _ μ => .ok (.val d) μ
section
variable {X : Cx} {c : Fx} {W : WX}
theorem de_name {e : Expr} {i : Nat} (h : PE X e (tVar i)) : DE X c W e (fVar i) := PE.of h fun σ H Q q => by
  obtain ⟨G, env, μ, R, q⟩ := q
  unfold fVar at q
  split at q
  · rename_i d e
    obtain ⟨v, h1, h2⟩ := R.val i d e
    exact ⟨v, h1, q.now Ext.refl R h2⟩
  · rename_i ds e
    obtain ⟨a, vs, h1, _⟩ := R.own i ds e
    exact ⟨_, h1, q.now Ext.refl R (show DatX c G σ _ (.own i) from h1)⟩
  · rename_i ks ds e
    obtain ⟨a, φ, h1, _⟩ := R.dic i ks ds e
    exact ⟨_, h1, q.now Ext.refl R (show DatX c G σ _ (.own i) from h1)⟩
  · exact q.elim
theorem de_v (i : Nat) {x : Str} {pos : Pos} (hN : X.N[i]? = some x := by rfl) (hv : Vis X.env.scope x := by first | exact Or.inl rfl | exact Or.inr (Or.inl rfl) | exact Or.inr (Or.inr rfl)) (hd : (x == ("__debug__" : Str)) = false := by decide) (hcd : (x == ("__classdict__" : Str)) = false := by decide) :
    DE X c W (.Name x pos) (fVar i) := de_name (pe_var hN hv hd hcd)
theorem de_c {e : Expr} {v : V} {d : D} (h : PE X e (tC v)) (hd : ∀ K G L, Dat K G L v d) : DE X c W e (fC d) := PE.of h fun σ H Q q => by
  obtain ⟨G, env, μ, R, q⟩ := q
  exact q.now Ext.refl R (show DatX c G σ v (.val d) from hd _ _ _)
theorem de_int {i j pos} : DE X c W (.Constant (.int i) j pos) (fC (.int i)) := de_c pe_int fun _ _ _ => .int i
theorem de_bl {b j pos} : DE X c W (.Constant (.bool b) j pos) (fC (.bl b)) := de_c pe_bl fun _ _ _ => .bl b
theorem de_non {j pos} : DE X c W (.Constant .none j pos) (fC .non) := de_c pe_non fun _ _ _ => .non
def fNil : FA := fun _ μ => .ok [] μ
def fCons (fa : FE) (fr : FA) : FA := fun env μ => (fa env μ).bind fun x μ => match x with
  | .val d => (fr env μ).bind fun ds μ => .ok (d :: ds) μ
  | _ => .bad
theorem da_nil : DA X c W [] fNil := PA.of pa_nil fun σ H Q q => by
  obtain ⟨G, env, μ, R, q⟩ := q
  exact q.now Ext.refl R Dats.nil
theorem da_cons {e : Expr} {es : List Expr} {fa : FE} {fr : FA} (ha : DE X c W e fa) (hr : DA X c W es fr) (hs : starEach (e :: es) X.env = (false, eval e X.env) :: starEach es X.env := by rfl) : DA X c W (e :: es) (fCons fa fr) := PA.of (pa_cons ha hr hs) fun σ H Q q => by
  obtain ⟨G, env, μ, R, q⟩ := q
  refine ⟨G, env, μ, R, (tG.bind q).imp (fun _ _ _ _ h => h) ?_⟩
  rintro x H1 ⟨G1, μ1, dx, x1, R1, d1, h1⟩
  cases dx with
  | own i => exact h1.elim
  | val d =>
    refine ⟨G1, env, μ1, R1, (tG.bind h1).imp (fun _ _ _ _ h => h) ?_⟩
    rintro xs H2 ⟨G2, μ2, ds, x2, R2, d2, h2⟩
    exact h2.now Ext.refl R2 (Dats.cons (Dat.up x2.gg d1) d2)

def fTup (fa : FA) : FE := fun env μ => (fa env μ).bind fun ds μ => if ds.length ≤ LIM then .ok (.val (.tup ds)) μ else .bad
def fLst (fa : FA) : FE := fun env μ => (fa env μ).bind fun ds μ => if ds.length ≤ LIM then .ok (.val (.lst ds)) μ else .bad
theorem newTup {σ : Sl} {H G : Hp} {env : En} {μ : Mu} {vs : List V} {ds : List D} {Q : VK} (R : FRel c σ H G env μ) (d : Dats c.K G c.L vs ds) (q : tG c W σ H G env (RX c σ) (.ok (.val (.tup ds)) μ) Q) : ∀ p o, H p = none → TupO o → Q (.ref p) (upd H p (.frz o (.tup vs))) := fun p o hp ho => by
  obtain ⟨R', x⟩ := R.newG' (o := .frz o (.tup vs)) hp ho.2
  exact q.now x R' (Dat.tup (SqTd.of upd_same ho.2) (d.up x.gg))
theorem newLst {σ : Sl} {H0 H G : Hp} {env : En} {μ : Mu} {vs : List V} {ds : List D} {Q : VK} (R : FRel c σ H G env μ) (d : Dats c.K G c.L vs ds) (q : tG c W σ H G env (RF c H) (.ok (.val (.lst ds)) μ) Q) : ∀ p, H p = none → Q (.ref p) (upd H p (.lst vs)) := fun p hp => by
  obtain ⟨R', x⟩ := R.newH (o := .lst vs) hp
  have f := R.toRRel.fresh hp
  exact q.now x R' ⟨p, vs, ds, rfl, rfl, upd_same, f.2.2, f.2.1, hp, d⟩
theorem de_tup {es : List Expr} {fa : FA} {k pos} (h : DA X c W es fa) : DE X c W (.Tuple es k pos) (fTup fa) := PE.of (pe_tupF h) fun σ H Q q => by
  obtain ⟨G, env, μ, R, q⟩ := q
  refine ⟨G, env, μ, R, (tG.bind q).imp (fun _ _ _ _ h => h) ?_⟩
  rintro xs H1 ⟨G1, μ1, ds, x1, R1, d1, h1⟩
  by_cases hl : ds.length ≤ LIM
  · rw [if_pos hl] at h1
    exact ⟨by rw [Dats.length d1, ← LIM_eq]; exact hl, newTup R1 d1 h1⟩
  · rw [if_neg hl] at h1; exact h1.elim
theorem dn_lst {es : List Expr} {fa : FA} {pos} (h : DA X c W es fa) : DN X c W (.List es pos) (fLst fa) := PE.of (pe_lst h) fun σ H Q q => by
  obtain ⟨G, env, μ, R, q⟩ := q
  refine ⟨G, env, μ, R, (tG.bind q).imp (fun _ _ _ _ h => h) ?_⟩
  rintro xs H1 ⟨G1, μ1, ds, x1, R1, d1, h1⟩
  by_cases hl : ds.length ≤ LIM
  · rw [if_pos hl] at h1
    exact ⟨by rw [Dats.length d1, ← LIM_eq]; exact hl, newLst (H0 := H) R1 d1 (h1.imp (fun _ _ _ _ z => z.base x1) fun _ _ z => z)⟩
  · rw [if_neg hl] at h1; exact h1.elim

abbrev G2 := En → RV → RV → Mu → Res RV
def OpG (c : Fx) (W : WX) (r : R2) (g : G2) : Prop := ∀ σ H G env μ x y dx dy Q, FRel c σ H G env μ → DatX c G σ x dx → DatX c G σ y dy → tG c W σ H G env (RX c σ) (g env dx dy μ) Q → r x y H Q
def OpN (c : Fx) (W : WX) (r : R2) (g : G2) : Prop := ∀ σ H G env μ x y dx dy Q, FRel c σ H G env μ → DatX c G σ x dx → DatX c G σ y dy → tG c W σ H G env (RF c H) (g env dx dy μ) Q → r x y H Q
def fB (g : G2) (fa fb : FE) : FE := fun env μ => (fa env μ).bind fun x μ => (fb env μ).bind fun y μ => g env x y μ
theorem tOp_of {r : R2} {g : G2} {fa fb : FE} (hg : OpG c W r g) {σ : Sl} {H : Hp} {Q : VK} (q : tE c W (fB g fa fb) σ H Q) : tOp r (tE c W fa) (tE c W fb) σ H Q := by
  obtain ⟨G, env, μ, R, q⟩ := q
  refine ⟨G, env, μ, R, (tG.bind q).imp (fun _ _ _ _ h => h) ?_⟩
  rintro x H1 ⟨G1, μ1, dx, x1, R1, d1, h1⟩
  refine ⟨G1, env, μ1, R1, (tG.bind h1).imp (fun _ _ _ _ h => h) ?_⟩
  rintro y H2 ⟨G2, μ2, dy, x2, R2, d2, h2⟩
  exact hg _ _ _ _ _ _ _ _ _ _ R2 (d1.up x2.gg) d2 h2
theorem tOp_ofN {r : R2} {g : G2} {fa fb : FE} (hg : OpN c W r g) {σ : Sl} {H : Hp} {Q : VK} (q : tN c W (fB g fa fb) σ H Q) : tOp r (tE c W fa) (tE c W fb) σ H Q := by
  obtain ⟨G, env, μ, R, q⟩ := q
  refine ⟨G, env, μ, R, (tG.bind q).imp (fun _ _ _ _ h => h) ?_⟩
  rintro x H1 ⟨G1, μ1, dx, x1, R1, d1, h1⟩
  refine ⟨G1, env, μ1, R1, (tG.bind h1).imp (fun _ _ _ _ h => h) ?_⟩
  rintro y H2 ⟨G2, μ2, dy, x2, R2, d2, h2⟩
  exact hg _ _ _ _ _ _ _ _ _ _ R2 (d1.up x2.gg) d2 (h2.imp (fun _ _ _ _ z => z.base (x1.trans x2)) fun _ _ z => z)
theorem de_op {a b : Expr} {op : Operator} {pos : Pos} {r : R2} {g : G2} {fa fb : FE} (ho : OpR X (binaryOp op) r) (hg : OpG c W r g) (ha : DE X c W a fa) (hb : DE X c W b fb) : DE X c W (.BinOp a op b pos) (fB g fa fb) := PE.of (pe_op ho ha hb) fun _ _ _ q => tOp_of hg q
theorem dn_op {a b : Expr} {op : Operator} {pos : Pos} {r : R2} {g : G2} {fa fb : FE} (ho : OpR X (binaryOp op) r) (hg : OpN c W r g) (ha : DE X c W a fa) (hb : DE X c W b fb) : DN X c W (.BinOp a op b pos) (fB g fa fb) := PE.of (pe_op ho ha hb) fun _ _ _ q => tOp_ofN hg q
theorem de_cmp {a b : Expr} {op : CmpOp} {pos : Pos} {r : R2} {g : G2} {fa fb : FE} (ho : OpR X (compareOp op) r) (hg : OpG c W r g) (ha : DE X c W a fa) (hb : DE X c W b fb) (hm : behindInMarks op b = false) : DE X c W (.Compare a [op] [b] pos) (fB g fa fb) := PE.of (pe_cmpR ho ha hb hm) fun _ _ _ q => tOp_of hg q
theorem de_ix {a b : Expr} {pos : Pos} {r : R2} {g : G2} {fa fb : FE} (ho : IxR X r) (hg : OpG c W r g) (ha : DE X c W a fa) (hb : DE X c W b fb) (hs : PlainIx b) : DE X c W (.Subscript a b pos) (fB g fa fb) := PE.of (pe_ix ho ha hb hs) fun _ _ _ q => tOp_of hg q
theorem OpG.or {r r' : R2} {g g' : G2} (h : OpG c W r g) (h' : OpG c W r' g') : OpG c W (fun x y H Q => r x y H Q ∨ r' x y H Q) (fun env x y μ => match g env x y μ with | .bad => g' env x y μ | z => z) := fun σ H G env μ x y dx dy Q R d1 d2 q => by
  cases e : g env dx dy μ with
  | ok a m =>
    simp only [e] at q
    exact .inl (h σ H G env μ x y dx dy Q R d1 d2 (by rw [e]; exact q))
  | exc a m =>
    simp only [e] at q
    exact .inl (h σ H G env μ x y dx dy Q R d1 d2 (by rw [e]; exact q))
  | bad =>
    simp only [e] at q
    exact .inr (h' σ H G env μ x y dx dy Q R d1 d2 q)
end
end Q
set_option Elab.async false
set_option linter.all false
set_option maxRecDepth 100000
set_option maxHeartbeats 4000000
namespace Q
open PySem PySem.Spec PyProof.Rows L2
mutual
def D.py : D → PyData
  | .non => .none
  | .bl b => .bool b
  | .int i => .int i
  | .str x => .str x
  | .tup xs => .tuple (D.pys xs)
  | .lst xs => .list (D.pys xs)
  | .frz xs => .list (D.pys xs)
  | .loc _ => .none
  | .ty _ => .none
  | .dct _ _ => .none
  | .exc _ _ _ => .none
def D.pys : List D → List PyData
  | [] => []
  | x :: xs => D.py x :: D.pys xs
end
mutual
/-- no store's list, no class, signs that are signs -/
def D.plain : D → Bool
  | .non => true
  | .bl _ => true
  | .int _ => true
  | .str x => PyData.strOk x
  | .tup xs => D.plains xs
  | .lst xs => D.plains xs
  | .frz xs => D.plains xs
  | .loc _ => false
  | .ty _ => false
  | .dct _ _ => false
  | .exc _ _ _ => false
def D.plains : List D → Bool
  | [] => true
  | x :: xs => D.plain x && D.plains xs
end
mutual
def D.dep : D → Nat
  | .tup xs => D.deps xs + 1
  | .lst xs => D.deps xs + 1
  | .frz xs => D.deps xs + 1
  | _ => 0
def D.deps : List D → Nat
  | [] => 0
  | x :: xs => max (D.dep x) (D.deps xs)
end
mutual
def D.eq : D → D → Bool
  | .non, .non => true
  | .bl a, .bl b => a == b
  | .bl a, .int j => (if a then 1 else 0) == j
  | .int i, .bl b => i == (if b then 1 else 0)
  | .int i, .int j => i == j
  | .str x, .str y => x == y
  | .tup xs, .tup ys => D.eqs xs ys
  | .lst xs, .lst ys => D.eqs xs ys
  | .lst xs, .frz ys => D.eqs xs ys
  | .frz xs, .lst ys => D.eqs xs ys
  | .frz xs, .frz ys => D.eqs xs ys
  | _, _ => false
def D.eqs : List D → List D → Bool
  | [], [] => true
  | x :: xs, y :: ys => D.eq x y && D.eqs xs ys
  | _, _ => false
end
mutual
theorem D.eqv_py : ∀ (a b : D), D.plain a = true → D.plain b = true → PyData.eqv (D.py a) (D.py b) = D.eq a b
  | .non, b, _, hb => by cases b <;> first | rfl | (exact absurd hb Bool.false_ne_true) | (simp [D.py, PyData.eqv, D.eq])
  | .bl _, b, _, hb => by cases b <;> first | rfl | (exact absurd hb Bool.false_ne_true) | (simp [D.py, PyData.eqv, D.eq])
  | .int _, b, _, hb => by cases b <;> first | rfl | (exact absurd hb Bool.false_ne_true) | (simp [D.py, PyData.eqv, D.eq])
  | .str _, b, _, hb => by cases b <;> first | rfl | (exact absurd hb Bool.false_ne_true) | (simp [D.py, PyData.eqv, D.eq])
  | .tup xs, b, ha, hb => by
    cases b <;> first
      | (exact absurd hb Bool.false_ne_true)
      | (simp only [D.py, PyData.eqv, D.eq]; done)
      | (simp only [D.py, PyData.eqv, D.eq]; exact D.eqvs_py _ _ ha hb)
  | .lst xs, b, ha, hb => by
    cases b <;> first
      | (exact absurd hb Bool.false_ne_true)
      | (simp only [D.py, PyData.eqv, D.eq]; done)
      | (simp only [D.py, PyData.eqv, D.eq]; exact D.eqvs_py _ _ ha hb)
  | .frz xs, b, ha, hb => by
    cases b <;> first
      | (exact absurd hb Bool.false_ne_true)
      | (simp only [D.py, PyData.eqv, D.eq]; done)
      | (simp only [D.py, PyData.eqv, D.eq]; exact D.eqvs_py _ _ ha hb)
  | .loc _, _, ha, _ => absurd ha Bool.false_ne_true
  | .ty _, _, ha, _ => absurd ha Bool.false_ne_true
  | .dct _ _, _, ha, _ => absurd ha Bool.false_ne_true
  | .exc _ _ _, _, ha, _ => absurd ha Bool.false_ne_true
theorem D.eqvs_py : ∀ (xs ys : List D), D.plains xs = true → D.plains ys = true → PyData.eqvAll (D.pys xs) (D.pys ys) = D.eqs xs ys
  | [], [], _, _ => by simp [D.pys, PyData.eqvAll, D.eqs]
  | [], _ :: _, _, _ => by simp [D.pys, PyData.eqvAll, D.eqs]
  | _ :: _, [], _, _ => by simp [D.pys, PyData.eqvAll, D.eqs]
  | x :: xs, y :: ys, ha, hb => by
    simp only [D.plains, Bool.and_eq_true] at ha hb
    simp only [D.pys, PyData.eqvAll, D.eqs]
    rw [D.eqv_py x y ha.1 hb.1, D.eqvs_py xs ys ha.2 hb.2]
end
mutual
theorem D.lay_py : ∀ a : D, D.plain a = true → (D.py a).canLay0 = true
  | .non, _ => rfl
  | .bl _, _ => rfl
  | .int _, _ => rfl
  | .str x, h => h
  | .tup xs, h => D.lays_py xs h
  | .lst xs, h => D.lays_py xs h
  | .frz xs, h => D.lays_py xs h
  | .loc _, h => by cases h
  | .ty _, h => by cases h
  | .dct _ _, h => by cases h
  | .exc _ _ _, h => by cases h
theorem D.lays_py : ∀ xs : List D, D.plains xs = true → PyData.canLayAll0 (D.pys xs) = true
  | [], _ => rfl
  | x :: xs, h => by
    simp only [D.plains, Bool.and_eq_true] at h
    simp only [D.pys, PyData.canLayAll0, Bool.and_eq_true]
    exact ⟨D.lay_py x h.1, D.lays_py xs h.2⟩
end
mutual
theorem D.dep_py : ∀ a : D, (D.py a).depth ≤ D.dep a
  | .non => Nat.le_refl _
  | .bl _ => Nat.le_refl _
  | .int _ => Nat.le_refl _
  | .str x => Nat.le_refl _
  | .tup xs => Nat.succ_le_succ (D.deps_py xs)
  | .lst xs => Nat.succ_le_succ (D.deps_py xs)
  | .frz xs => Nat.succ_le_succ (D.deps_py xs)
  | .loc _ => Nat.le_refl _
  | .ty _ => Nat.le_refl _
  | .dct _ _ => Nat.le_refl _
  | .exc _ _ _ => Nat.le_refl _
theorem D.deps_py : ∀ xs : List D, PyData.depthAll (D.pys xs) ≤ D.deps xs
  | [] => Nat.le_refl _
  | x :: xs => by
    simp only [D.pys, PyData.depthAll, D.deps]
    have h1 := D.dep_py x
    have h2 := D.deps_py xs
    omega
end
section
variable {K : KW} {G H : Hp} {L : List Addr}
mutual
theorem Dat.dp (s : Sub G H) : ∀ {v : V} {d : D}, Dat K G L v d → D.plain d = true → Dp K H v (D.py d)
  | _, _, .non, _ => .non
  | _, _, .bl b, _ => .bl b
  | _, _, .int i, _ => .int i
  | _, _, .str x, _ => .str x
  | _, _, .ty n, h => by cases h
  | _, _, .dct _ _ _ _ _, h => by cases h
  | _, _, .exc _ _ _ _ _, h => by cases h
  | _, _, .tup h t, p => .tup (s.sqT h) (Dats.dp s t p)
  | _, _, .lst h t, p => .lst (SqL.of (s _ _ h)) (Dats.dp s t p)
  | _, _, .frz h t, p => .lst (s.sqL h) (Dats.dp s t p)
  | _, _, .loc h, p => by cases p
theorem Dats.dp (s : Sub G H) : ∀ {vs : List V} {ds : List D}, Dats K G L vs ds → D.plains ds = true → DpAll K H vs (D.pys ds)
  | _, _, .nil, _ => .nil
  | _, d :: ds, .cons h t, p => by
    simp only [D.plains, Bool.and_eq_true] at p
    exact .cons (Dat.dp s h p.1) (Dats.dp s t p.2)
end
end
def rd (env : En) (μ : Mu) : RV → Option D
  | .val (.loc n) => (μ[n]?).map D.lst
  | .own i => match env[i]? with | some (.own ds) => some (.lst ds) | _ => none
  | .val d => some d
section
variable {c : Fx} {σ : Sl} {H G : Hp} {env : En} {μ : Mu} {x : V} {dx : RV} {d : D}
theorem rd_dp (R : FRel c σ H G env μ) (dd : DatX c G σ x dx) (e : rd env μ dx = some d) (p : D.plain d = true) : Dp c.K H x (D.py d) := by
  unfold rd at e
  split at e
  · rename_i n
    cases dd with
    | loc h =>
      cases q : μ[n]? with
      | none => rw [q] at e; cases e
      | some es =>
        rw [q] at e; cases e
        obtain ⟨_, vs, h1, h2⟩ := R.loc n _ es h q
        exact .lst (SqL.of h1) (Dats.dp R.sub h2 p)
  · rename_i i
    split at e
    · rename_i ds ee
      cases e
      obtain ⟨a, vs, h1, h2, _, _, _, h3⟩ := R.own i ds ee
      have d' : σ[i]? = some (some x) := dd
      rw [h1] at d'
      injection d' with d'
      injection d' with d'
      subst d'
      exact .lst (SqL.of h2) (Dats.dp R.sub h3 p)
    · cases e
  · cases e
    exact Dat.dp R.sub dd p
end
def D.scal : D → Bool
  | .non => true
  | .bl _ => true
  | .int _ => true
  | .str _ => true
  | _ => false
def D.scal2 (a b : D) : Bool := match a, b with
  | .non, .non => true
  | .bl _, .bl _ => true
  | .int _, .int _ => true
  | .str _, .str _ => true
  | _, _ => false
def gEq : G2 := fun env x y μ => match rd env μ x, rd env μ y with
  | some a, some b => if D.scal2 a b || (D.plain a && D.plain b && decide (min (D.dep a) (D.dep b) ≤ 64)) then .ok (.val (.bl (D.eq a b))) μ else .bad
  | _, _ => .bad
def gNe : G2 := fun env x y μ => match rd env μ x, rd env μ y with
  | some a, some b => if D.scal2 a b || (D.plain a && D.plain b && decide (min (D.dep a) (D.dep b) ≤ 64)) then .ok (.val (.bl (!D.eq a b))) μ else .bad
  | _, _ => .bad
def rEqM (K : PySem.W.Frag) : R2 := fun x y H Q => ∃ d e, Dp K H x d ∧ Dp K H y e ∧ d.canLay0 = true ∧ e.canLay0 = true ∧ min d.depth e.depth ≤ 64 ∧ Q (.bl (PyData.eqv d e)) H
def rNeM (K : PySem.W.Frag) : R2 := fun x y H Q => ∃ d e, Dp K H x d ∧ Dp K H y e ∧ d.canLay0 = true ∧ e.canLay0 = true ∧ min d.depth e.depth ≤ 64 ∧ Q (.bl (!PyData.eqv d e)) H
section
variable {X : Cx} {c : Fx} {W : WX}
theorem op_eqM (hu : X.A.units + 64 < cLine) : OpR X (compareOp .Eq) (rEqM X.K) := by
  intro pins s σ H x y v u Q I rx ry h
  obtain ⟨d, e, hd, he, sd, se, hm, q⟩ := h
  obtain ⟨as, r1⟩ := Dp.reads I d x v hd rx
  obtain ⟨bs, r2⟩ := Dp.reads I e y u he ry
  exact SeqAt.compareEq_reads r1 r2 sd se (by omega) ⟨.bl _, H, I, rfl, q⟩
theorem op_neM (hu : X.A.units + 64 < cLine) : OpR X (compareOp .NotEq) (rNeM X.K) := by
  intro pins s σ H x y v u Q I rx ry h
  obtain ⟨d, e, hd, he, sd, se, hm, q⟩ := h
  obtain ⟨as, r1⟩ := Dp.reads I d x v hd rx
  obtain ⟨bs, r2⟩ := Dp.reads I e y u he ry
  exact SeqAt.compareNe_reads r1 r2 sd se (by omega) ⟨.bl _, H, I, rfl, q⟩
theorem scal2_eq {K : KW} {G : Hp} {L : List Addr} {a b : D} {x y : V} (h : D.scal2 a b = true) (da : Dat K G L x a) (db : Dat K G L y b) : L2.scal x y = true ∧ decide (x = y) = D.eq a b := by
  unfold D.scal2 at h
  split at h
  · cases da; cases db; exact ⟨rfl, rfl⟩
  · cases da; cases db; exact ⟨rfl, by rw [dec_bl]; simp [D.eq]⟩
  · cases da; cases db; exact ⟨rfl, by rw [dec_int]; simp [D.eq]⟩
  · cases da; cases db; exact ⟨rfl, by rw [dec_str]; simp [D.eq]⟩
  · cases h
theorem rd_scal {G : Hp} {σ : Sl} {env : En} {μ : Mu} {x : V} {dx : RV} {d e : D} (dd : DatX c G σ x dx) (h : rd env μ dx = some d) (s : D.scal2 d e = true ∨ D.scal2 e d = true) : Dat c.K G c.L x d := by
  unfold rd at h
  split at h
  · rename_i n
    cases q : μ[n]? with
    | none => rw [q] at h; cases h
    | some es => rw [q] at h; cases h; rcases s with s | s <;> (unfold D.scal2 at s; split at s <;> first | contradiction | cases s)
  · split at h
    · cases h; rcases s with s | s <;> (unfold D.scal2 at s; split at s <;> first | contradiction | cases s)
    · cases h
  · cases h; exact dd
theorem og_eq : OpG c W (fun x y H Q => rEq x y H Q ∨ rEqM c.K x y H Q) gEq := by
  intro σ H G env μ x y dx dy Q R d1 d2 q
  unfold gEq at q
  split at q
  · rename_i a b ea eb
    split at q
    · rename_i hc
      have q' := q.now Ext.refl R (show DatX c G σ _ (.val (.bl (D.eq a b))) from Dat.bl _)
      cases hs : D.scal2 a b with
      | true =>
        obtain ⟨h1, h2⟩ := scal2_eq hs (rd_scal d1 ea (.inl hs)) (rd_scal d2 eb (.inr hs))
        exact .inl ⟨h1, by rw [h2]; exact q'⟩
      | false =>
        rw [hs, Bool.false_or, Bool.and_eq_true, Bool.and_eq_true, decide_eq_true_eq] at hc
        obtain ⟨⟨pa, pb⟩, hm⟩ := hc
        refine .inr ⟨_, _, rd_dp R d1 ea pa, rd_dp R d2 eb pb, D.lay_py a pa, D.lay_py b pb, ?_, by rw [D.eqv_py a b pa pb]; exact q'⟩
        have := D.dep_py a
        have := D.dep_py b
        omega
    · exact q.elim
  · exact q.elim
theorem og_ne : OpG c W (fun x y H Q => rNe x y H Q ∨ rNeM c.K x y H Q) gNe := by
  intro σ H G env μ x y dx dy Q R d1 d2 q
  unfold gNe at q
  split at q
  · rename_i a b ea eb
    split at q
    · rename_i hc
      have q' := q.now Ext.refl R (show DatX c G σ _ (.val (.bl (!D.eq a b))) from Dat.bl _)
      cases hs : D.scal2 a b with
      | true =>
        obtain ⟨h1, h2⟩ := scal2_eq hs (rd_scal d1 ea (.inl hs)) (rd_scal d2 eb (.inr hs))
        exact .inl ⟨h1, by rw [h2]; exact q'⟩
      | false =>
        rw [hs, Bool.false_or, Bool.and_eq_true, Bool.and_eq_true, decide_eq_true_eq] at hc
        obtain ⟨⟨pa, pb⟩, hm⟩ := hc
        refine .inr ⟨_, _, rd_dp R d1 ea pa, rd_dp R d2 eb pb, D.lay_py a pa, D.lay_py b pb, ?_, by rw [D.eqv_py a b pa pb]; exact q'⟩
        have := D.dep_py a
        have := D.dep_py b
        omega
    · exact q.elim
  · exact q.elim
end
end Q
set_option Elab.async false
set_option linter.all false
set_option maxRecDepth 100000
set_option maxHeartbeats 4000000
namespace Q
open PySem PySem.Spec PyProof.Rows L2
theorem le_line {n : Nat} (h : n ≤ LIM) : n ≤ sizeLine := by rw [← LIM_eq]; exact h
section
variable {X : Cx} {c : Fx} {W : WX}
theorem newLstG {σ : Sl} {H G : Hp} {env : En} {μ : Mu} {vs : List V} {ds : List D} {Q : VK} (R : FRel c σ H G env μ) (d : Dats c.K G c.L vs ds) (q : tG c W σ H G env (RX c σ) (.ok (.val (.lst ds)) μ) Q) : ∀ p, H p = none → Q (.ref p) (upd H p (.lst vs)) := fun p hp => by
  obtain ⟨R', x⟩ := R.newG' (o := .lst vs) hp True.intro
  exact q.now x R' (Dat.lst upd_same (d.up x.gg))
theorem newLstN {σ : Sl} {H G : Hp} {env : En} {μ : Mu} {vs : List V} {ds : List D} {Q : VK} (R : FRel c σ H G env μ) (d : Dats c.K G c.L vs ds) (q : tG c W σ H G env (RF c H) (.ok (.val (.lst ds)) μ) Q) : ∀ p, H p = none → Q (.ref p) (upd H p (.lst vs)) := newLst (H0 := H) R d q

def gAdd : G2 := fun env x y μ => match x, y with
  | .val (.int i), .val (.int j) => .ok (.val (.int (i + j))) μ
  | .val (.str i), .val (.str j) => if i.length + j.length ≤ LIM then .ok (.val (.str (i ++ j))) μ else .bad
  | .val (.tup a), .val (.tup b) => if a.length + b.length ≤ LIM then .ok (.val (.tup (a ++ b))) μ else .bad
  | _, _ => match sqM env μ x, sqM env μ y with
    | some a, some b => if a.length + b.length ≤ LIM then .ok (.val (.lst (a ++ b))) μ else .bad
    | _, _ => .bad
def rAddA (K : PySem.W.Frag) : R2 := fun x y H Q => rI0 (fun i j => .int (i + j)) x y H Q ∨ (∃ i j, x = .str i ∧ y = .str j ∧ i.length + j.length ≤ sizeLine ∧ Q (.str (i ++ j)) H) ∨ rCatF K x y H Q ∨ rCat x y H Q
theorem op_addA : OpR X (binaryOp .Add) (rAddA X.K) := op_add.or (op_add_str.or (op_catF.or op_cat))
theorem og_add : OpG c W (rAddA c.K) gAdd := by
  intro σ H G env μ x y dx dy Q R d1 d2 q
  unfold gAdd at q
  split at q
  · cases d1; cases d2
    exact .inl ⟨_, _, rfl, rfl, q.now Ext.refl R (show DatX c G σ _ (.val (.int _)) from Dat.int _)⟩
  · cases d1; cases d2
    split at q
    · rename_i h
      exact .inr (.inl ⟨_, _, rfl, rfl, le_line h, q.now Ext.refl R (show DatX c G σ _ (.val (.str _)) from Dat.str _)⟩)
    · exact q.elim
  · split at q
    · rename_i h
      cases d1 with
      | tup s1 t1 =>
        cases d2 with
        | tup s2 t2 =>
          have l1 := t1.length
          have l2 := t2.length
          refine .inr (.inr (.inl ⟨_, _, _, _, rfl, rfl, R.sub.sqT s1, R.sub.sqT s2, by rw [l1, l2]; exact le_line h, fun e => ?_, fun _ e => ?_, fun _ _ => newTup R (t1.append t2) q⟩))
          · subst e
            cases t1
            exact q.now Ext.refl R (Dat.tup s2 t2)
          · subst e
            cases t2
            rw [List.append_nil] at q
            exact q.now Ext.refl R (Dat.tup s1 t1)
    · exact q.elim
  · split at q
    · rename_i a b e1 e2
      split at q
      · rename_i h
        obtain ⟨p1, vs, rfl, h1, t1⟩ := sqM_at R d1 e1
        obtain ⟨p2, ws, rfl, h2, t2⟩ := sqM_at R d2 e2
        exact .inr (.inr (.inr ⟨_, _, _, _, rfl, rfl, h1, h2, by rw [t1.length, t2.length]; exact le_line h, newLstG R (t1.append t2) q⟩))
      · exact q.elim
    · exact q.elim
theorem de_add {a b : Expr} {pos : Pos} {fa fb : FE} (ha : DE X c W a fa) (hb : DE X c W b fb) (hk : X.K = c.K := by rfl) : DE X c W (.BinOp a .Add b pos) (fB gAdd fa fb) := de_op (op_addA (X := X)) (hk ▸ og_add) ha hb
def gCat : G2 := fun env x y μ => match sqM env μ x, sqM env μ y with
  | some a, some b => if a.length + b.length ≤ LIM then .ok (.val (.lst (a ++ b))) μ else .bad
  | _, _ => .bad
theorem on_cat : OpN c W rCat gCat := by
  intro σ H G env μ x y dx dy Q R d1 d2 q
  unfold gCat at q
  split at q
  · rename_i a b e1 e2
    split at q
    · rename_i h
      obtain ⟨p1, vs, rfl, h1, t1⟩ := sqM_at R d1 e1
      obtain ⟨p2, ws, rfl, h2, t2⟩ := sqM_at R d2 e2
      exact ⟨_, _, _, _, rfl, rfl, h1, h2, by rw [t1.length, t2.length]; exact le_line h, newLstN R (t1.append t2) q⟩
    · exact q.elim
  · exact q.elim
theorem dn_cat {a b : Expr} {pos : Pos} {fa fb : FE} (ha : DE X c W a fa) (hb : DE X c W b fb) : DN X c W (.BinOp a .Add b pos) (fB gCat fa fb) := dn_op op_cat on_cat ha hb
def gI (C : Int → Int → Bool) (g : Int → Int → Int) : G2 := fun _ x y μ => match x, y with
  | .val (.int i), .val (.int j) => if C i j then .ok (.val (.int (g i j))) μ else .bad
  | _, _ => .bad
theorem og_I {C : Int → Int → Bool} {C' : Int → Int → Prop} {g : Int → Int → Int} (hC : ∀ i j, C i j = true → C' i j) : OpG c W (rI C' fun i j => .int (g i j)) (gI C g) := by
  intro σ H G env μ x y dx dy Q R d1 d2 q
  unfold gI at q
  split at q
  · cases d1; cases d2
    split at q
    · rename_i h
      exact ⟨_, _, rfl, rfl, hC _ _ h, q.now Ext.refl R (show DatX c G σ _ (.val (.int _)) from Dat.int _)⟩
    · exact q.elim
  · exact q.elim
def gI0 (g : Int → Int → Int) : G2 := fun _ x y μ => match x, y with
  | .val (.int i), .val (.int j) => .ok (.val (.int (g i j))) μ
  | _, _ => .bad
theorem og_I0 {g : Int → Int → Int} : OpG c W (rI0 fun i j => .int (g i j)) (gI0 g) := by
  intro σ H G env μ x y dx dy Q R d1 d2 q
  unfold gI0 at q
  split at q
  · cases d1; cases d2
    exact ⟨_, _, rfl, rfl, q.now Ext.refl R (show DatX c G σ _ (.val (.int _)) from Dat.int _)⟩
  · exact q.elim
def gSub : G2 := gI0 fun i j => i - j
def mulOk (i j : Int) : Bool := (decide (-(2 ^ 64) < i) && decide (i < 2 ^ 64)) || (decide (-(2 ^ 64) < j) && decide (j < 2 ^ 64))
def gMul : G2 := gI mulOk fun i j => i * j
def divOk (_ j : Int) : Bool := decide (0 < j) && decide (j < 1073741824)
def gDiv : G2 := gI divOk fun i j => i / j
def gMod : G2 := gI (fun _ j => decide (0 < j)) fun i j => i % j
def powOk (i j : Int) : Bool := decide (0 ≤ j) && decide (j ≤ 1000000) && decide (i.natAbs < 2 ^ 64)
def gPow : G2 := gI powOk fun i j => i ^ j.toNat
theorem de_sub {a b : Expr} {pos : Pos} {fa fb : FE} (ha : DE X c W a fa) (hb : DE X c W b fb) : DE X c W (.BinOp a .Sub b pos) (fB gSub fa fb) := de_op op_sub og_I0 ha hb
theorem de_mul {a b : Expr} {pos : Pos} {fa fb : FE} (ha : DE X c W a fa) (hb : DE X c W b fb) : DE X c W (.BinOp a .Mult b pos) (fB gMul fa fb) :=
  de_op op_mul (og_I fun i j h => by simp only [mulOk, Bool.or_eq_true, Bool.and_eq_true, decide_eq_true_eq] at h; exact h) ha hb
theorem de_div {a b : Expr} {pos : Pos} {fa fb : FE} (ha : DE X c W a fa) (hb : DE X c W b fb) : DE X c W (.BinOp a .FloorDiv b pos) (fB gDiv fa fb) :=
  de_op op_fdiv (og_I fun i j h => by simp only [divOk, Bool.and_eq_true, decide_eq_true_eq] at h; exact h) ha hb
theorem de_mod {a b : Expr} {pos : Pos} {fa fb : FE} (ha : DE X c W a fa) (hb : DE X c W b fb) : DE X c W (.BinOp a .Mod b pos) (fB gMod fa fb) :=
  de_op op_mod (og_I fun i j h => of_decide_eq_true h) ha hb
theorem de_pow {a b : Expr} {pos : Pos} {fa fb : FE} (ha : DE X c W a fa) (hb : DE X c W b fb) : DE X c W (.BinOp a .Pow b pos) (fB gPow fa fb) :=
  de_op op_pow (og_I fun i j h => by simp only [powOk, Bool.and_eq_true, decide_eq_true_eq] at h; exact ⟨h.1.1, h.1.2, h.2⟩) ha hb
def gRep : G2 := fun env x y μ => match sqM env μ x, y with
  | some a, .val (.int k) => if 0 ≤ k ∧ k ≤ 1000 ∧ a.length * k.toNat ≤ LIM then .ok (.val (.lst (List.replicate k.toNat a).flatten)) μ else .bad
  | _, _ => .bad
theorem on_rep : OpN c W rRep gRep := by
  intro σ H G env μ x y dx dy Q R d1 d2 q
  unfold gRep at q
  split at q
  · rename_i a k e1
    split at q
    · rename_i h
      obtain ⟨p1, vs, rfl, h1, t1⟩ := sqM_at R d1 e1
      cases d2
      exact ⟨_, _, _, rfl, rfl, h1, by omega, by omega, by rw [t1.length]; exact le_line h.2.2, newLstN R (t1.rep k.toNat) q⟩
    · exact q.elim
  · exact q.elim
theorem dn_rep {a b : Expr} {pos : Pos} {fa fb : FE} (ha : DE X c W a fa) (hb : DE X c W b fb) : DN X c W (.BinOp a .Mult b pos) (fB gRep fa fb) := dn_op op_rep on_rep ha hb
theorem de_eq {a b : Expr} {pos : Pos} {fa fb : FE} (hu : X.A.units + 64 < cLine) (ha : DE X c W a fa) (hb : DE X c W b fb) (hk : X.K = c.K := by rfl) : DE X c W (.Compare a [.Eq] [b] pos) (fB gEq fa fb) := de_cmp (op_eq.or (op_eqM hu)) (hk ▸ og_eq) ha hb (nomark _)
def gIB (g : Int → Int → Bool) : G2 := fun _ x y μ => match x, y with
  | .val (.int i), .val (.int j) => .ok (.val (.bl (g i j))) μ
  | _, _ => .bad
theorem og_IB {g : Int → Int → Bool} : OpG c W (rI0 fun i j => .bl (g i j)) (gIB g) := by
  intro σ H G env μ x y dx dy Q R d1 d2 q
  unfold gIB at q
  split at q
  · cases d1; cases d2
    exact ⟨_, _, rfl, rfl, q.now Ext.refl R (show DatX c G σ _ (.val (.bl _)) from Dat.bl _)⟩
  · exact q.elim
def gLt : G2 := gIB fun i j => decide (i < j)
def gLe : G2 := gIB fun i j => decide (i ≤ j)
def gGt : G2 := gIB fun i j => decide (j < i)
def gGe : G2 := gIB fun i j => decide (j ≤ i)
theorem de_ge {a b : Expr} {pos : Pos} {fa fb : FE} (ha : DE X c W a fa) (hb : DE X c W b fb) : DE X c W (.Compare a [.GtE] [b] pos) (fB gGe fa fb) := de_cmp op_ge og_IB ha hb (nomark _)
def fCh (g g' : Int → Int → Bool) (fa fb fc : FE) : FE := fun env μ => (fa env μ).bind fun x μ => (fb env μ).bind fun y μ => match x, y with
  | .val (.int i), .val (.int j) => if g i j then (fc env μ).bind fun z μ => match z with
      | .val (.int k) => .ok (.val (.bl (g' j k))) μ
      | _ => .bad
    else .ok (.val (.bl false)) μ
  | _, _ => .bad
def RV.isN : RV → Bool
  | .val .non => true
  | _ => false
theorem isN_eq {G : Hp} {σ : Sl} {x : V} {dx : RV} {env : En} {H : Hp} {μ : Mu} (R : FRel c σ H G env μ) (hx : ∀ i, dx = .own i → ∃ ds, env[i]? = some (.own ds)) (d : DatX c G σ x dx) : decide (x = .non) = dx.isN := by
  cases dx with
  | own i =>
    obtain ⟨ds, e⟩ := hx i rfl
    obtain ⟨a, vs, h1, _⟩ := R.own i ds e
    have d' : σ[i]? = some (some x) := d
    rw [h1] at d'
    injection d' with d'
    injection d' with d'
    subst d'
    rfl
  | val d => cases d <;> rfl
def gIsN : G2 := fun env x y μ => match x, y with
  | .val d, .val .non => .ok (.val (.bl (RV.isN (.val d)))) μ
  | _, _ => .bad
def gNotN : G2 := fun env x y μ => match x, y with
  | .val d, .val .non => .ok (.val (.bl (!RV.isN (.val d)))) μ
  | _, _ => .bad
theorem de_isN {a b : Expr} {pos : Pos} {fa fb : FE} (ha : DE X c W a fa) (hb : DE X c W b fb) : DE X c W (.Compare a [.Is] [b] pos) (fB gIsN fa fb) := de_cmp op_isN (by
  intro σ H G env μ x y dx dy Q R d1 d2 q
  unfold gIsN at q
  split at q
  · cases d2
    refine ⟨rfl, ?_⟩
    rw [isN_eq R (fun i e => by cases e) d1]
    exact q.now Ext.refl R (show DatX c G σ _ (.val (.bl _)) from Dat.bl _)
  · exact q.elim) ha hb (nomark _)
end
end Q
set_option Elab.async false
set_option linter.all false
set_option maxRecDepth 100000
set_option maxHeartbeats 4000000
namespace Q
open PySem PySem.Spec PyProof.Rows L2
section
variable {X : Cx} {c : Fx} {W : WX}
def tru (env : En) (μ : Mu) : RV → Option Bool
  | .val .non => some false
  | .val (.bl b) => some b
  | .val (.int i) => some (i != 0)
  | .val (.str y) => if y.length ≤ LIM then some ((y.length : Int) != 0) else none
  | x => match sq env μ x with
    | some s => some (!s.items.isEmpty)
    | none => none
theorem empty_eq {K : KW} {G : Hp} {L : List Addr} {vs : List V} {ds : List D} (h : Dats K G L vs ds) : vs.isEmpty = ds.isEmpty := by cases h <;> rfl
theorem tru_v {σ : Sl} {H G : Hp} {env : En} {μ : Mu} {x : V} {dx : RV} {b : Bool} (R : FRel c σ H G env μ) (d : DatX c G σ x dx) (e : tru env μ dx = some b) : TruV c.K x H b := by
  have seq : ∀ s, sq env μ dx = some s → b = !s.items.isEmpty → TruV c.K x H b := fun s es eb => by
    cases s with
    | tup ds =>
      obtain ⟨a, vs, rfl, h1, h2⟩ := sq_tup d es
      exact .inr (.inl ⟨vs, R.sub.sqT h1, by rw [eb, empty_eq h2]; rfl⟩)
    | lst ds =>
      obtain ⟨a, vs, rfl, h1, h2⟩ := sq_lst R d es
      exact .inl ⟨vs, h1, by rw [eb, empty_eq h2]; rfl⟩
  unfold tru at e
  split at e
  · cases d; cases e; rfl
  · cases d; cases e; rfl
  · cases d; cases e; rfl
  · cases d
    split at e
    · rename_i h
      cases e
      exact ⟨le_line h, rfl⟩
    · cases e
  · split at e
    · rename_i s es
      cases e
      exact seq s es rfl
    · cases e
def fTT (fa : FE) : FT := fun env μ => (fa env μ).bind fun x μ => match tru env μ x with | some b => .ok b μ | none => .bad
theorem dt_truth {e : Expr} {f : FE} (h : DE X c W e f) (he : ∀ whole, isTrue e X.env whole = (do let v ← whole; standAt e.pos; holding [v] (truthy v)) := by intro _; rfl) (hk : X.K = c.K := by rfl) : DT X c W e (fTT f) := PT.of (pt_truth h he) fun σ H Q q => by
  obtain ⟨G, env, μ, R, q⟩ := q
  refine ⟨G, env, μ, R, (tG.bind q).imp (fun _ _ _ _ h => h) ?_⟩
  rintro x H1 ⟨G1, μ1, dx, x1, R1, d1, h1⟩
  split at h1
  · rename_i b eb
    exact ⟨b, hk ▸ tru_v R1 d1 eb, h1.now Ext.refl R1 rfl⟩
  · exact h1.elim
def fTB (fa : FE) : FT := fun env μ => (fa env μ).bind fun x μ => match x with | .val (.bl b) => .ok b μ | _ => .bad
theorem dt_of {e : Expr} {f : FE} {t : TE} (h : PT X e (tB t)) (i : ∀ σ H Q, tE c W f σ H Q → t σ H Q) : DT X c W e (fTB f) := PT.of h fun σ H Q q => by
  refine i σ H _ ?_
  obtain ⟨G, env, μ, R, q⟩ := q
  refine ⟨G, env, μ, R, (tG.bind q).imp (fun _ _ _ _ h => h) ?_⟩
  rintro x H1 ⟨G1, μ1, dx, x1, R1, d1, h1⟩
  split at h1
  · cases d1
    exact ⟨_, rfl, h1.now Ext.refl R1 rfl⟩
  · exact h1.elim
theorem dt_cmp {a b : Expr} {op : CmpOp} {pos : Pos} {r : R2} {g : G2} {fa fb : FE} (ho : OpR X (compareOp op) r) (hg : OpG c W r g) (ha : DE X c W a fa) (hb : DE X c W b fb) (hm : behindInMarks op b = false) : DT X c W (.Compare a [op] [b] pos) (fTB (fB g fa fb)) :=
  dt_of (t := tOp r (tE c W fa) (tE c W fb)) (pt_cmpR ho ha hb hm) fun _ _ _ q => tOp_of hg q
theorem dt_ne {a b : Expr} {pos : Pos} {fa fb : FE} (hu : X.A.units + 64 < cLine) (ha : DE X c W a fa) (hb : DE X c W b fb) (hk : X.K = c.K := by rfl) : DT X c W (.Compare a [.NotEq] [b] pos) (fTB (fB gNe fa fb)) := dt_cmp (op_ne.or (op_neM hu)) (hk ▸ og_ne) ha hb (nomark _)
theorem dt_lt {a b : Expr} {pos : Pos} {fa fb : FE} (ha : DE X c W a fa) (hb : DE X c W b fb) : DT X c W (.Compare a [.Lt] [b] pos) (fTB (fB gLt fa fb)) := dt_cmp op_lt og_IB ha hb (nomark _)
theorem dt_gt {a b : Expr} {pos : Pos} {fa fb : FE} (ha : DE X c W a fa) (hb : DE X c W b fb) : DT X c W (.Compare a [.Gt] [b] pos) (fTB (fB gGt fa fb)) := dt_cmp op_gt og_IB ha hb (nomark _)
theorem og_isN : OpG c W (fun x y H Q => y = .non ∧ Q (.bl (decide (x = .non))) H) gIsN := by
  intro σ H G env μ x y dx dy Q R d1 d2 q
  unfold gIsN at q
  split at q
  · cases d2
    refine ⟨rfl, ?_⟩
    rw [isN_eq R (fun i e => by cases e) d1]
    exact q.now Ext.refl R (show DatX c G σ _ (.val (.bl _)) from Dat.bl _)
  · exact q.elim
theorem dt_isN {a b : Expr} {pos : Pos} {fa fb : FE} (ha : DE X c W a fa) (hb : DE X c W b fb) : DT X c W (.Compare a [.Is] [b] pos) (fTB (fB gIsN fa fb)) := dt_cmp op_isN og_isN ha hb (nomark _)
def fAnd (fa fb : FT) : FT := fun env μ => (fa env μ).bind fun b μ => if b then fb env μ else .ok false μ
def fOr (fa fb : FT) : FT := fun env μ => (fa env μ).bind fun b μ => if b then .ok true μ else fb env μ
def fNot (fa : FT) : FT := fun env μ => (fa env μ).bind fun b μ => .ok (!b) μ
abbrev DW (X : Cx) (c : Fx) (W : WX) (e : Expr) (f : FT) : Prop := PW X e (tT c W f)
theorem dw_or1 {a : Expr} {pos : Pos} {fa : FT} (ha : DT X c W a fa) : DW X c W (.BoolOp .Or [a] pos) fa := pw_or1 ha
theorem dw_or {a b : Expr} {rest : List Expr} {pos : Pos} {fa fb : FT} (ha : DT X c W a fa) (hb : DW X c W (.BoolOp .Or (b :: rest) pos) fb) : DW X c W (.BoolOp .Or (a :: b :: rest) pos) (fOr fa fb) := PW.of (pw_or ha hb) fun σ H Q q => by
  obtain ⟨G, env, μ, R, q⟩ := q
  refine ⟨G, env, μ, R, (tG.bind q).imp (fun _ _ _ _ h => h) ?_⟩
  rintro x H1 ⟨G1, μ1, dx, x1, R1, d1, h1⟩
  cases d1
  cases x with
  | true => exact h1.now Ext.refl R1 rfl
  | false => exact ⟨G1, env, μ1, R1, h1⟩
theorem dt_w {e : Expr} {f : FT} (h : DW X c W e f) : DT X c W e f := h.pt
theorem dt_not {a : Expr} {pos : Pos} {fa : FT} (ha : DT X c W a fa) : DT X c W (.UnaryOp .Not a pos) (fNot fa) := PT.of (pt_not ha) fun σ H Q q => by
  obtain ⟨G, env, μ, R, q⟩ := q
  refine ⟨G, env, μ, R, (tG.bind q).imp (fun _ _ _ _ h => h) ?_⟩
  rintro x H1 ⟨G1, μ1, dx, x1, R1, d1, h1⟩
  cases d1
  exact h1.now Ext.refl R1 rfl
def fAndV (fa fb : FE) : FE := fun env μ => (fa env μ).bind fun x μ => match tru env μ x with | some true => fb env μ | some false => .ok x μ | none => .bad
def fOrV (fa fb : FE) : FE := fun env μ => (fa env μ).bind fun x μ => match tru env μ x with | some true => .ok x μ | some false => fb env μ | none => .bad
def fNotV (fa : FE) : FE := fun env μ => (fa env μ).bind fun x μ => match tru env μ x with | some b => .ok (.val (.bl (!b))) μ | none => .bad
theorem de_one {op : BoolOp} {a : Expr} {pos : Pos} {fa : FE} (h : DE X c W a fa) : DE X c W (.BoolOp op [a] pos) fa := pe_one h
theorem de_and {a b : Expr} {rest : List Expr} {pos : Pos} {fa fb : FE} (ha : DE X c W a fa) (hb : DE X c W (.BoolOp .And (b :: rest) pos) fb) (hk : X.K = c.K := by rfl) : DE X c W (.BoolOp .And (a :: b :: rest) pos) (fAndV fa fb) := PE.of (pe_andT ha hb) fun σ H Q q => by
  obtain ⟨G, env, μ, R, q⟩ := q
  refine ⟨G, env, μ, R, (tG.bind q).imp (fun _ _ _ _ h => h) ?_⟩
  rintro x H1 ⟨G1, μ1, dx, x1, R1, d1, h1⟩
  split at h1
  · rename_i e
    exact ⟨true, hk ▸ tru_v R1 d1 e, (if_pos rfl).mpr ⟨G1, env, μ1, R1, h1⟩⟩
  · rename_i e
    exact ⟨false, hk ▸ tru_v R1 d1 e, (if_neg Bool.false_ne_true).mpr (h1.now Ext.refl R1 d1)⟩
  · exact h1.elim
theorem de_not {a : Expr} {pos : Pos} {fa : FE} (ha : DE X c W a fa) (hk : X.K = c.K := by rfl) : DE X c W (.UnaryOp .Not a pos) (fNotV fa) := PE.of (pe_notT ha) fun σ H Q q => by
  obtain ⟨G, env, μ, R, q⟩ := q
  refine ⟨G, env, μ, R, (tG.bind q).imp (fun _ _ _ _ h => h) ?_⟩
  rintro x H1 ⟨G1, μ1, dx, x1, R1, d1, h1⟩
  split at h1
  · rename_i b e
    exact ⟨b, hk ▸ tru_v R1 d1 e, h1.now Ext.refl R1 (show DatX c G1 σ _ (.val (.bl _)) from Dat.bl _)⟩
  · exact h1.elim
def fNeg (fa : FE) : FE := fun env μ => (fa env μ).bind fun x μ => match x with | .val (.int i) => .ok (.val (.int (-i))) μ | _ => .bad
theorem de_neg {a : Expr} {pos : Pos} {fa : FE} (ha : DE X c W a fa) : DE X c W (.UnaryOp .USub a pos) (fNeg fa) := PE.of (pe_un un_neg ha) fun σ H Q q => by
  obtain ⟨G, env, μ, R, q⟩ := q
  refine ⟨G, env, μ, R, (tG.bind q).imp (fun _ _ _ _ h => h) ?_⟩
  rintro x H1 ⟨G1, μ1, dx, x1, R1, d1, h1⟩
  split at h1
  · cases d1
    exact ⟨_, rfl, h1.now Ext.refl R1 (show DatX c G1 σ _ (.val (.int _)) from Dat.int _)⟩
  · exact h1.elim
def fIf (ft : FT) (fa fb : FE) : FE := fun env μ => (ft env μ).bind fun b μ => if b then fa env μ else fb env μ
theorem de_if {t a b : Expr} {pos : Pos} {ft : FT} {fa fb : FE} (ht : DT X c W t ft) (ha : DE X c W a fa) (hb : DE X c W b fb) : DE X c W (.IfExp t a b pos) (fIf ft fa fb) := PE.of (pe_ifExp ht ha hb) fun σ H Q q => by
  obtain ⟨G, env, μ, R, q⟩ := q
  refine ⟨G, env, μ, R, (tG.bind q).imp (fun _ _ _ _ h => h) ?_⟩
  rintro x H1 ⟨G1, μ1, dx, x1, R1, d1, h1⟩
  cases d1
  cases x with
  | true => exact ⟨G1, env, μ1, R1, h1⟩
  | false => exact ⟨G1, env, μ1, R1, h1⟩
def gIx : G2 := fun env x y μ => match y with
  | .val (.int i) => match x with
    | .val (.str z) => if z.length ≤ LIM then match atI z.cps.toList i with
      | some k => .ok (.val (.str ⟨#[k]⟩)) μ
      | none => .bad
      else .bad
    | _ => match sq env μ x with
      | some s => match atI s.items i with
        | some d => .ok (.val d) μ
        | none => .bad
      | none => .bad
  | _ => .bad
theorem Dats.atI {K : KW} {G : Hp} {L : List Addr} {vs : List V} {ds : List D} (h : Dats K G L vs ds) {i : Int} {d : D} (e : L2.atI ds i = some d) : ∃ v, L2.atI vs i = some v ∧ Dat K G L v d := by
  unfold L2.atI at e ⊢
  rw [h.length]
  cases q : ixN ds.length i with
  | none => rw [q] at e; cases e
  | some j =>
    rw [q] at e
    obtain ⟨v, h1, h2⟩ := h.get (i := j) (d := d) e
    exact ⟨v, h1, h2⟩
theorem og_ix : OpG c W (rIx c.K) gIx := by
  intro σ H G env μ x y dx dy Q R d1 d2 q
  unfold gIx at q
  split at q
  · cases d2
    rename_i i
    split at q
    · rename_i z
      cases d1
      split at q
      · rename_i hz
        split at q
        · rename_i k e
          exact .inr (.inr ⟨z, i, k, rfl, rfl, le_line hz, e, q.now Ext.refl R (show DatX c G σ _ (.val (.str _)) from Dat.str _)⟩)
        · exact q.elim
      · exact q.elim
    · split at q
      · rename_i s es
        split at q
        · rename_i d e
          cases s with
          | tup ds =>
            obtain ⟨a, vs, rfl, h1, h2⟩ := sq_tup d1 es
            obtain ⟨v, h3, h4⟩ := h2.atI e
            exact .inr (.inl ⟨a, vs, i, v, rfl, rfl, R.sub.sqT h1, h3, q.now Ext.refl R (show DatX c G σ v (.val d) from h4)⟩)
          | lst ds =>
            obtain ⟨a, vs, rfl, h1, h2⟩ := sq_lst R d1 es
            obtain ⟨v, h3, h4⟩ := h2.atI e
            exact .inl ⟨a, vs, i, v, rfl, rfl, h1, h3, q.now Ext.refl R (show DatX c G σ v (.val d) from h4)⟩
        · exact q.elim
      · exact q.elim
  · exact q.elim
theorem de_at {a b : Expr} {pos : Pos} {fa fb : FE} (ha : DE X c W a fa) (hb : DE X c W b fb) (hs : PlainIx b := by intro _ _; rfl) (hk : X.K = c.K := by rfl) : DE X c W (.Subscript a b pos) (fB gIx fa fb) := de_ix (ix_seq (X := X)) (hk ▸ og_ix) ha hb hs
abbrev FO := En → Mu → Res (Option Int)
def fNoO : FO := fun _ μ => .ok none μ
def fSomeO (fa : FE) : FO := fun env μ => (fa env μ).bind fun x μ => match x with | .val (.int i) => .ok (some i) μ | _ => .bad
def RO : Hp → Hp → Option Int → Option Int → Prop := fun _ _ v d => v = d
def tO (c : Fx) (W : WX) (f : FO) : TO := fun σ H Q => ∃ G env μ, FRel c σ H G env μ ∧ tG c W σ H G env RO (f env μ) Q
theorem PO.of {X : Cx} {e : Option Expr} {t t' : TO} (h : PO X e t) (i : ∀ σ H Q, t' σ H Q → t σ H Q) : PO X e t' := ⟨fun pins s σ H Q I q => h.run pins s σ H Q I (i σ H Q q)⟩
theorem do_none : PO X none (tO c W fNoO) := PO.of po_none fun σ H Q q => by
  obtain ⟨G, env, μ, R, q⟩ := q
  exact q.now Ext.refl R rfl
theorem do_some {e : Expr} {fa : FE} (h : DE X c W e fa) : PO X (some e) (tO c W (fSomeO fa)) := PO.of (po_some h) fun σ H Q q => by
  obtain ⟨G, env, μ, R, q⟩ := q
  refine ⟨G, env, μ, R, (tG.bind q).imp (fun _ _ _ _ h => h) ?_⟩
  rintro x H1 ⟨G1, μ1, dx, x1, R1, d1, h1⟩
  split at h1
  · cases d1
    exact ⟨_, rfl, h1.now Ext.refl R1 rfl⟩
  · exact h1.elim
def cut {α : Type} (xs : List α) (lo hi : Option Int) : List α := (xs.drop (HT.sIx xs.length 0 lo)).take (HT.sIx xs.length xs.length hi - HT.sIx xs.length 0 lo)
abbrev GS := En → RV → Option Int → Option Int → Mu → Res RV
def fSl (g : GS) (fe : FE) (fl fh : FO) : FE := fun env μ => (fe env μ).bind fun x μ => (fl env μ).bind fun l μ => (fh env μ).bind fun h μ => g env x l h μ
def gSl : GS := fun env x l h μ => match sq env μ x with
  | some (.tup ds) => .ok (.val (.tup (cut ds l h))) μ
  | some (.lst ds) => .ok (.val (.lst (cut ds l h))) μ
  | none => .bad
def gSlN : GS := fun env x l h μ => match sq env μ x with
  | some (.lst ds) => .ok (.val (.lst (cut ds l h))) μ
  | _ => .bad
theorem Dats.cut {K : KW} {G : Hp} {L : List Addr} {vs : List V} {ds : List D} (h : Dats K G L vs ds) (lo hi : Option Int) : Dats K G L (cutV vs lo hi) (Q.cut ds lo hi) := by
  unfold cutV Q.cut
  rw [h.length]
  exact (h.drop _).take _
theorem cut_whole {α : Type} {ds : List α} {lo hi : Option Int} (h : HT.sIx ds.length 0 lo = 0 ∧ HT.sIx ds.length ds.length hi = ds.length) : cut ds lo hi = ds := by
  unfold cut
  rw [h.1, h.2, List.drop_zero, Nat.sub_zero]
  exact List.take_length
theorem og_sl {σ : Sl} {H G : Hp} {env : En} {μ : Mu} {x : V} {dx : RV} {lo hi : Option Int} {Q : VK} (R : FRel c σ H G env μ) (d : DatX c G σ x dx) (q : tG c W σ H G env (RX c σ) (gSl env dx lo hi μ) Q) : rSlF c.K x lo hi H Q ∨ rSlL c.K x lo hi H Q := by
  unfold gSl at q
  split at q
  · rename_i ds e
    obtain ⟨a, vs, rfl, h1, h2⟩ := sq_tup d e
    refine .inl ⟨a, vs, rfl, R.sub.sqT h1, fun w => ?_, fun _ => newTup R (h2.cut lo hi) q⟩
    rw [h2.length] at w
    rw [cut_whole w] at q
    exact q.now Ext.refl R (Dat.tup h1 h2)
  · rename_i ds e
    obtain ⟨a, vs, rfl, h1, h2⟩ := sq_lst R d e
    exact .inr ⟨a, vs, rfl, h1, newLstG R (h2.cut lo hi) q⟩
  · exact q.elim
theorem de_slice {e : Expr} {lo hi : Option Expr} {p2 pos : Pos} {fe : FE} {fl fh : FO} (he : DE X c W e fe) (hl : PO X lo (tO c W fl)) (hu : PO X hi (tO c W fh)) (hk : X.K = c.K := by rfl) : DE X c W (.Subscript e (.Slice lo hi none p2) pos) (fSl gSl fe fl fh) := PE.of (pe_slice (SlR.or (sl_tupF (X := X)) sl_list) he hl hu) fun σ H Q q => by
  obtain ⟨G, env, μ, R, q⟩ := q
  refine ⟨G, env, μ, R, (tG.bind q).imp (fun _ _ _ _ h => h) ?_⟩
  rintro x H1 ⟨G1, μ1, dx, x1, R1, d1, h1⟩
  refine ⟨G1, env, μ1, R1, (tG.bind h1).imp (fun _ _ _ _ h => h) ?_⟩
  rintro l H2 ⟨G2, μ2, dl, x2, R2, d2, h2⟩
  cases d2
  refine ⟨G2, env, μ2, R2, (tG.bind h2).imp (fun _ _ _ _ h => h) ?_⟩
  rintro h H3 ⟨G3, μ3, dh, x3, R3, d3, h3⟩
  cases d3
  exact hk ▸ og_sl R3 (d1.up (x2.gg.trans x3.gg)) h3
def inD (d : D) (ds : List D) : Bool := ds.any fun z => D.eq z d
def gIn (neg : Bool) : G2 := fun env x y μ => match rd env μ x, sq env μ y with
  | some d, some s => if D.plain d && D.plains s.items && decide (min (D.deps s.items) (D.dep d) ≤ 63) then .ok (.val (.bl (neg != inD d s.items))) μ else .bad
  | some (.str a), none => match y with
    | .val (.str z) => if a.cps.size = 1 then .ok (.val (.bl (neg != decide (a.cps.getD 0 0 ∈ z.cps.toList)))) μ else .bad
    | _ => .bad
  | _, _ => .bad
end
end Q
set_option Elab.async false
set_option linter.all false
set_option maxRecDepth 100000
set_option maxHeartbeats 4000000
namespace Q
open PySem PySem.Spec PyProof.Rows L2
abbrev FAr := En → Mu → Res (List RV)
inductive DatXs (c : Fx) (G : Hp) (σ : Sl) : List V → List RV → Prop
  | nil : DatXs c G σ [] []
  | cons {v : V} {d : RV} {vs : List V} {ds : List RV} : DatX c G σ v d → DatXs c G σ vs ds → DatXs c G σ (v :: vs) (d :: ds)
def RXr (c : Fx) (σ : Sl) : Hp → Hp → List V → List RV → Prop := fun _ G v d => DatXs c G σ v d
def tAr (c : Fx) (W : WX) (f : FAr) : TA := fun σ H Q => ∃ G env μ, FRel c σ H G env μ ∧ tG c W σ H G env (RXr c σ) (f env μ) Q
abbrev DAr (X : Cx) (c : Fx) (W : WX) (es : List Expr) (f : FAr) : Prop := PA X es (tAr c W f)
def fNilr : FAr := fun _ μ => .ok [] μ
def fConsr (fa : FE) (fr : FAr) : FAr := fun env μ => (fa env μ).bind fun x μ => (fr env μ).bind fun ds μ => .ok (x :: ds) μ
section
variable {X : Cx} {c : Fx} {W : WX}
theorem dr_nil : DAr X c W [] fNilr := PA.of pa_nil fun σ H Q q => by
  obtain ⟨G, env, μ, R, q⟩ := q
  exact q.now Ext.refl R DatXs.nil
theorem dr_cons {e : Expr} {es : List Expr} {fa : FE} {fr : FAr} (ha : DE X c W e fa) (hr : DAr X c W es fr) (hs : starEach (e :: es) X.env = (false, eval e X.env) :: starEach es X.env := by rfl) : DAr X c W (e :: es) (fConsr fa fr) := PA.of (pa_cons ha hr hs) fun σ H Q q => by
  obtain ⟨G, env, μ, R, q⟩ := q
  refine ⟨G, env, μ, R, (tG.bind q).imp (fun _ _ _ _ h => h) ?_⟩
  rintro x H1 ⟨G1, μ1, dx, x1, R1, d1, h1⟩
  refine ⟨G1, env, μ1, R1, (tG.bind h1).imp (fun _ _ _ _ h => h) ?_⟩
  rintro xs H2 ⟨G2, μ2, ds, x2, R2, d2, h2⟩
  exact h2.now Ext.refl R2 (DatXs.cons (d1.up x2.gg) d2)
abbrev GC := En → List RV → Mu → Res RV
def CallG (c : Fx) (W : WX) (r : List V → Hp → VK → Prop) (g : GC) : Prop := ∀ σ H G env μ vs ds Q, FRel c σ H G env μ → DatXs c G σ vs ds → tG c W σ H G env (RX c σ) (g env ds μ) Q → r vs H Q
def CallN (c : Fx) (W : WX) (r : List V → Hp → VK → Prop) (g : GC) : Prop := ∀ σ H G env μ vs ds Q, FRel c σ H G env μ → DatXs c G σ vs ds → tG c W σ H G env (RF c H) (g env ds μ) Q → r vs H Q
def fCall (g : GC) (fa : FAr) : FE := fun env μ => (fa env μ).bind fun xs μ => g env xs μ
theorem tCB_of {r : List V → Hp → VK → Prop} {g : GC} {fa : FAr} (hg : CallG c W r g) {σ : Sl} {H : Hp} {Q : VK} (q : tE c W (fCall g fa) σ H Q) : tCB r (tAr c W fa) σ H Q := by
  obtain ⟨G, env, μ, R, q⟩ := q
  refine ⟨G, env, μ, R, (tG.bind q).imp (fun _ _ _ _ h => h) ?_⟩
  rintro xs H1 ⟨G1, μ1, ds, x1, R1, d1, h1⟩
  exact hg _ _ _ _ _ _ _ _ R1 d1 h1
theorem tCB_ofN {r : List V → Hp → VK → Prop} {g : GC} {fa : FAr} (hg : CallN c W r g) {σ : Sl} {H : Hp} {Q : VK} (q : tN c W (fCall g fa) σ H Q) : tCB r (tAr c W fa) σ H Q := by
  obtain ⟨G, env, μ, R, q⟩ := q
  refine ⟨G, env, μ, R, (tG.bind q).imp (fun _ _ _ _ h => h) ?_⟩
  rintro xs H1 ⟨G1, μ1, ds, x1, R1, d1, h1⟩
  exact hg _ _ _ _ _ _ _ _ R1 d1 (h1.imp (fun _ _ _ _ z => z.base x1) fun _ _ z => z)
theorem de_blt {id : String} {x : Str} {r : List V → Hp → VK → Prop} {g : GC} {e : Expr} {es : List Expr} {fa : FAr} {p pos : Pos} (hc : CallR X (.builtin id) r) (hg : CallG c W r g) (hgl : Gl X x) (hm : X.mg x = none) (hv : bootBuiltins x = some (.builtin id)) (ha : DAr X c W (e :: es) fa)
    (hn : x ≠ "__name__" := by decide) (hdb : (x == ("__debug__" : Str)) = false := by decide) (he : starEach (e :: es) X.env = (false, eval e X.env) :: starEach es X.env := by rfl) (hpl : (backTo pos (starEach es X.env)).any (·.1) = false := by rfl) : DE X c W (.Call (.Name x p) (e :: es) [] pos) (fCall g fa) :=
  PE.of (pe_callB hc hgl hm hv ha hn hdb he hpl) fun _ _ _ q => tCB_of hg q
theorem de_bty {T : String} {x : Str} {r : List V → Hp → VK → Prop} {g : GC} {e : Expr} {es : List Expr} {fa : FAr} {p pos : Pos} (hc : CallR X (.type T) r) (hg : CallG c W r g) (hgl : Gl X x) (hm : X.mg x = none) (hv : bootBuiltins x = some (.type T)) (ha : DAr X c W (e :: es) fa)
    (hn : x ≠ "__name__" := by decide) (hdb : (x == ("__debug__" : Str)) = false := by decide) (he : starEach (e :: es) X.env = (false, eval e X.env) :: starEach es X.env := by rfl) (hpl : (backTo pos (starEach es X.env)).any (·.1) = false := by rfl) : DE X c W (.Call (.Name x p) (e :: es) [] pos) (fCall g fa) :=
  PE.of (pe_callTy hc hgl hm hv ha hn hdb he hpl) fun _ _ _ q => tCB_of hg q
theorem dn_bty {T : String} {x : Str} {r : List V → Hp → VK → Prop} {g : GC} {e : Expr} {es : List Expr} {fa : FAr} {p pos : Pos} (hc : CallR X (.type T) r) (hg : CallN c W r g) (hgl : Gl X x) (hm : X.mg x = none) (hv : bootBuiltins x = some (.type T)) (ha : DAr X c W (e :: es) fa)
    (hn : x ≠ "__name__" := by decide) (hdb : (x == ("__debug__" : Str)) = false := by decide) (he : starEach (e :: es) X.env = (false, eval e X.env) :: starEach es X.env := by rfl) (hpl : (backTo pos (starEach es X.env)).any (·.1) = false := by rfl) : DN X c W (.Call (.Name x p) (e :: es) [] pos) (fCall g fa) :=
  PE.of (pe_callTy hc hgl hm hv ha hn hdb he hpl) fun _ _ _ q => tCB_ofN hg q
def gLen : GC := fun env xs μ => match xs with
  | [.val (.str z)] => if z.length ≤ LIM then .ok (.val (.int z.length)) μ else .bad
  | [x] => match sq env μ x with
    | some s => .ok (.val (.int s.items.length)) μ
    | none => .bad
  | _ => .bad
def rLen (K : PySem.W.Frag) : List V → Hp → VK → Prop := fun xs H Q => (∃ p ys, xs = [.ref p] ∧ (SqL K H p ys ∨ SqT K H p ys) ∧ Q (.int ys.length) H) ∨ ∃ z, xs = [.str z] ∧ z.length ≤ sizeLine ∧ Q (.int z.length) H
theorem cr_len : CallR X (.builtin "len") (rLen X.K) := call_len_seq.or call_len_str
theorem cg_len : CallG c W (rLen c.K) gLen := by
  intro σ H G env μ vs ds Q R d q
  unfold gLen at q
  split at q
  · cases d with
    | cons d1 d2 =>
      cases d2; cases d1
      split at q
      · rename_i h
        exact .inr ⟨_, rfl, le_line h, q.now Ext.refl R (show DatX c G σ _ (.val (.int _)) from Dat.int _)⟩
      · exact q.elim
  · cases d with
    | cons d1 d2 =>
      cases d2
      split at q
      · rename_i s es
        cases s with
        | tup ds =>
          obtain ⟨a, ws, rfl, h1, h2⟩ := sq_tup d1 es
          refine .inl ⟨a, ws, rfl, .inr (R.sub.sqT h1), ?_⟩
          rw [h2.length]
          exact q.now Ext.refl R (show DatX c G σ _ (.val (.int _)) from Dat.int _)
        | lst ds =>
          obtain ⟨a, ws, rfl, h1, h2⟩ := sq_lst R d1 es
          refine .inl ⟨a, ws, rfl, .inl h1, ?_⟩
          rw [h2.length]
          exact q.now Ext.refl R (show DatX c G σ _ (.val (.int _)) from Dat.int _)
      · exact q.elim
  · exact q.elim
def gTuple : GC := fun env xs μ => match xs with
  | [x] => match sq env μ x with
    | some s => .ok (.val (.tup s.items)) μ
    | none => .bad
  | _ => .bad
theorem cg_tuple : CallG c W (fun xs H Q => ∃ p ys, xs = [.ref p] ∧ ((SqL c.K H p ys ∧ ∀ l o, H l = none → TupO o → Q (.ref l) (upd H l (.frz o (.tup ys)))) ∨ (SqT c.K H p ys ∧ Q (.ref p) H))) gTuple := by
  intro σ H G env μ vs ds Q R d q
  unfold gTuple at q
  split at q
  · cases d with
    | cons d1 d2 =>
      cases d2
      split at q
      · rename_i s es
        cases s with
        | tup ds =>
          obtain ⟨a, ws, rfl, h1, h2⟩ := sq_tup d1 es
          exact ⟨a, ws, rfl, .inr ⟨R.sub.sqT h1, q.now Ext.refl R (Dat.tup h1 h2)⟩⟩
        | lst ds =>
          obtain ⟨a, ws, rfl, h1, h2⟩ := sq_lst R d1 es
          exact ⟨a, ws, rfl, .inl ⟨h1, newTup R h2 q⟩⟩
      · exact q.elim
  · exact q.elim
def gList : GC := fun env xs μ => match xs with
  | [x] => match sq env μ x with
    | some s => .ok (.val (.lst s.items)) μ
    | none => .bad
  | _ => .bad
theorem cn_list : CallN c W (fun xs H Q => ∃ p ys, xs = [.ref p] ∧ (SqL c.K H p ys ∨ SqT c.K H p ys) ∧ ∀ l, H l = none → Q (.ref l) (upd H l (.lst ys))) gList := by
  intro σ H G env μ vs ds Q R d q
  unfold gList at q
  split at q
  · cases d with
    | cons d1 d2 =>
      cases d2
      split at q
      · rename_i s es
        cases s with
        | tup ds =>
          obtain ⟨a, ws, rfl, h1, h2⟩ := sq_tup d1 es
          exact ⟨a, ws, rfl, .inr (R.sub.sqT h1), newLstN R h2 q⟩
        | lst ds =>
          obtain ⟨a, ws, rfl, h1, h2⟩ := sq_lst R d1 es
          exact ⟨a, ws, rfl, .inl h1, newLstN R h2 q⟩
      · exact q.elim
  · exact q.elim
theorem de_len {e : Expr} {fa : FE} {p pos : Pos} (hm : X.mg "len" = none) (ha : DE X c W e fa) (hgl : Gl X "len" := by rfl) (hk : X.K = c.K := by rfl) (hs : starEach [e] X.env = (false, eval e X.env) :: starEach [] X.env := by rfl) : DE X c W (.Call (.Name "len" p) [e] [] pos) (fCall gLen (fConsr fa fNilr)) :=
  de_blt (cr_len (X := X)) (hk ▸ cg_len) hgl hm PySem.boot_len (dr_cons ha dr_nil hs) (by decide) (by decide) hs
theorem de_tuple {e : Expr} {fa : FE} {p pos : Pos} (hm : X.mg "tuple" = none) (ha : DE X c W e fa) (hgl : Gl X "tuple" := by rfl) (hk : X.K = c.K := by rfl) (hs : starEach [e] X.env = (false, eval e X.env) :: starEach [] X.env := by rfl) : DE X c W (.Call (.Name "tuple" p) [e] [] pos) (fCall gTuple (fConsr fa fNilr)) :=
  de_bty (call_tuple_F (X := X)) (hk ▸ cg_tuple) hgl hm (by decide +kernel) (dr_cons ha dr_nil hs) (by decide) (by decide) hs
theorem dn_list {e : Expr} {fa : FE} {p pos : Pos} (hm : X.mg "list" = none) (ha : DE X c W e fa) (hgl : Gl X "list" := by rfl) (hk : X.K = c.K := by rfl) (hs : starEach [e] X.env = (false, eval e X.env) :: starEach [] X.env := by rfl) : DN X c W (.Call (.Name "list" p) [e] [] pos) (fCall gList (fConsr fa fNilr)) :=
  dn_bty (call_list_of (X := X)) (hk ▸ cn_list) hgl hm (by decide +kernel) (dr_cons ha dr_nil hs) (by decide) (by decide) hs
def bls : List D → Option (List Bool)
  | [] => some []
  | .bl b :: r => (bls r).map (b :: ·)
  | _ => none
theorem bls_v {K : KW} {G : Hp} {L : List Addr} : ∀ {ds : List D} {bs : List Bool} {vs : List V}, bls ds = some bs → Dats K G L vs ds → vs = bs.map V.bl
  | [], bs, vs, h, d => by cases h; cases d; rfl
  | x :: r, bs, vs, h, d => by
    cases x with
    | bl b =>
      simp only [bls] at h
      cases e : bls r with
      | none => rw [e] at h; cases h
      | some cs =>
        rw [e] at h; cases h
        cases d with
        | cons d1 d2 =>
          cases d1
          rw [bls_v e d2]; rfl
    | _ => cases h
def gBls (g : List Bool → Bool) : GC := fun env xs μ => match xs with
  | [x] => match sq env μ x with
    | some (.lst ds) => match bls ds with
      | some bs => .ok (.val (.bl (g bs))) μ
      | none => .bad
    | _ => .bad
  | _ => .bad
theorem cg_bls {g : List Bool → Bool} : CallG c W (fun vs H Q => ∃ (a : Addr) (bs : List Bool), vs = [V.ref a] ∧ SqL c.K H a (bs.map V.bl) ∧ Q (.bl (g bs)) H) (gBls g) := by
  intro σ H G env μ vs ds Q R d q
  unfold gBls at q
  split at q
  · cases d with
    | cons d1 d2 =>
      cases d2
      split at q
      · rename_i ds es
        split at q
        · rename_i bs eb
          obtain ⟨a, ws, rfl, h1, h2⟩ := sq_lst R d1 es
          have := bls_v eb h2
          subst this
          exact ⟨a, bs, rfl, h1, q.now Ext.refl R (show DatX c G σ _ (.val (.bl _)) from Dat.bl _)⟩
        · exact q.elim
      · exact q.elim
  · exact q.elim
def gAll : GC := gBls fun bs => bs.all id
def gAny : GC := gBls fun bs => bs.any id
theorem de_all {e : Expr} {fa : FE} {p pos : Pos} (hc : X.calm = true) (hm : X.mg "all" = none) (ha : DE X c W e fa) (hgl : Gl X "all" := by rfl) (hk : X.K = c.K := by rfl) (hs : starEach [e] X.env = (false, eval e X.env) :: starEach [] X.env := by rfl) : DE X c W (.Call (.Name "all" p) [e] [] pos) (fCall gAll (fConsr fa fNilr)) :=
  de_blt (cr_all hc) (hk ▸ cg_bls) hgl hm (by decide +kernel) (dr_cons ha dr_nil hs) (by decide) (by decide) hs
def gI1 (g : Int → Int) : GC := fun _ xs μ => match xs with
  | [.val (.int i)] => .ok (.val (.int (g i))) μ
  | _ => .bad
def gI2 (g : Int → Int → Int) : GC := fun _ xs μ => match xs with
  | [.val (.int i), .val (.int j)] => .ok (.val (.int (g i j))) μ
  | _ => .bad
theorem cg_I1 {g : Int → Int} {r : List V → Hp → VK → Prop} (hr : ∀ (i : Int) (H : Hp) (Q : VK), Q (.int (g i)) H → r [V.int i] H Q) : CallG c W r (gI1 g) := by
  intro σ H G env μ vs ds Q R d q
  unfold gI1 at q
  split at q
  · cases d with
    | cons d1 d2 =>
      cases d2; cases d1
      exact hr _ _ _ (q.now Ext.refl R (show DatX c G σ _ (.val (.int _)) from Dat.int _))
  · exact q.elim
def gAbs : GC := gI1 fun i => if i < 0 then -i else i
def gMin2 : GC := gI2 fun i j => if j < i then j else i
def gMax2 : GC := gI2 fun i j => if j > i then j else i
theorem de_abs {e : Expr} {fa : FE} {p pos : Pos} (hm : X.mg "abs" = none) (ha : DE X c W e fa) (hgl : Gl X "abs" := by rfl) (hs : starEach [e] X.env = (false, eval e X.env) :: starEach [] X.env := by rfl) : DE X c W (.Call (.Name "abs" p) [e] [] pos) (fCall gAbs (fConsr fa fNilr)) :=
  de_blt call_abs (cg_I1 fun i H Q q => ⟨i, rfl, q⟩) hgl hm (by decide +kernel) (dr_cons ha dr_nil hs) (by decide) (by decide) hs
def gInt : GC := fun _ xs μ => match xs with
  | [.val (.int i)] => .ok (.val (.int i)) μ
  | [.val (.bl b)] => .ok (.val (.int (if b then 1 else 0))) μ
  | _ => .bad
theorem cg_int : CallG c W (fun xs H Q => (∃ i, xs = [.int i] ∧ Q (.int i) H) ∨ ∃ k, xs = [.bl k] ∧ Q (.int (if k then 1 else 0)) H) gInt := by
  intro σ H G env μ vs ds Q R d q
  unfold gInt at q
  split at q
  · cases d with
    | cons d1 d2 =>
      cases d2; cases d1
      exact .inl ⟨_, rfl, q.now Ext.refl R (show DatX c G σ _ (.val (.int _)) from Dat.int _)⟩
  · cases d with
    | cons d1 d2 =>
      cases d2; cases d1
      exact .inr ⟨_, rfl, q.now Ext.refl R (show DatX c G σ _ (.val (.int _)) from Dat.int _)⟩
  · exact q.elim
theorem de_int1 {e : Expr} {fa : FE} {p pos : Pos} (hm : X.mg "int" = none) (ha : DE X c W e fa) (hgl : Gl X "int" := by rfl) (hs : starEach [e] X.env = (false, eval e X.env) :: starEach [] X.env := by rfl) : DE X c W (.Call (.Name "int" p) [e] [] pos) (fCall gInt (fConsr fa fNilr)) :=
  de_bty call_int1 cg_int hgl hm (by decide +kernel) (dr_cons ha dr_nil hs) (by decide) (by decide) hs
def tyName : D → String
  | .non => "NoneType"
  | .bl _ => "bool"
  | .int _ => "int"
  | .str _ => "str"
  | .tup _ => "tuple"
  | .lst _ => "list"
  | .frz _ => "list"
  | .loc _ => "list"
  | .ty _ => "type"
  | .dct _ _ => "dict"
  | .exc _ _ _ => "error"
def subTy (a b : String) : Bool := a == b || (a == "bool" && b == "int")
def tyGo (a b : String) : Bool := (a ∈ ["NoneType", "bool", "int", "str", "tuple", "list"]) && (b ∈ ["bool", "int", "str", "tuple", "list"])
theorem kit_all : (["NoneType", "bool", "int", "str", "tuple", "list"].all fun a => ["bool", "int", "str", "tuple", "list"].all fun b => L2.kitB a b == some (subTy a b)) = true := by decide +kernel
theorem kit_sub {a b : String} (h : tyGo a b = true) : L2.kitB a b = some (subTy a b) := by
  unfold tyGo at h
  rw [Bool.and_eq_true, decide_eq_true_eq, decide_eq_true_eq] at h
  have h1 := List.all_eq_true.mp kit_all a h.1
  have h2 := List.all_eq_true.mp h1 b h.2
  exact eq_of_beq h2
def isi (ns : List String) (x : RV) (μ : Mu) : Res RV := match x with
  | .val d => if ns.all (fun n => tyGo (tyName d) n) then .ok (.val (.bl (ns.any fun n => subTy (tyName d) n))) μ else .bad
  | .own _ => .bad
def fIsi (ns : List String) (fa : FE) : FE := fun env μ => (fa env μ).bind fun x μ => isi ns x μ
theorem kitAny_sub {K : PySem.W.Frag} {a : String} : ∀ {ns : List String}, (ns.all fun n => tyGo a n) = true → PySem.W.kitAny K (.type a) (ns.map Value.type) = some (ns.any fun n => subTy a n)
  | [], _ => kitAny_nil
  | n :: ns, h => by
    rw [List.all_cons, Bool.and_eq_true] at h
    have k := kit_sub h.1
    show PySem.W.kitAny K (.type a) (Value.type n :: ns.map Value.type) = _
    rw [List.any_cons]
    refine kitAny_cons (kit_ty k) (fun e => ?_) fun e => ?_
    · rw [e, Bool.false_or]; exact kitAny_sub h.2
    · rw [e]; rfl
theorem ty_of {σ : Sl} {H G : Hp} {env : En} {μ : Mu} {x : V} {d : D} (R : FRel c σ H G env μ) (dd : Dat c.K G c.L x d) (h : tyGo (tyName d) "list" = true) : TyX c.K H x (.type (tyName d)) := by
  cases dd with
  | non => exact .base .non
  | bl b => exact .base (.bl b)
  | int i => exact .base (.int i)
  | str x => exact .base (.str x)
  | ty n => exact absurd h (by simp [tyName, tyGo])
  | dct ks ds => exact absurd h (by simp [tyName, tyGo])
  | exc _ _ _ _ _ => exact absurd h (by simp [tyName, tyGo])
  | tup s t =>
    rcases s with (s | ⟨o, s⟩) | ⟨o, its, n, h1, h2, _⟩
    · exact .base (.tup (R.sub _ _ s))
    · exact .fTuple (R.sub _ _ s)
    · exact .kTuple h1 h2
  | lst s t => exact .base (.lst (R.sub _ _ s))
  | frz s t =>
    rcases s with (s | ⟨o, s⟩) | ⟨o, its, n, h1, h2, _⟩
    · exact .base (.lst (R.sub _ _ s))
    · exact .base (.frz (R.sub _ _ s))
    · exact .kList h1 h2
  | loc l =>
    obtain ⟨vs, e⟩ := R.toRRel.lk (List.mem_of_getElem? l)
    exact .base (.lst e)
theorem tyGo_list {a b : String} (h : tyGo a b = true) : tyGo a "list" = true := by
  unfold tyGo at h ⊢
  rw [Bool.and_eq_true] at h ⊢
  exact ⟨h.1, by decide⟩
theorem de_isi {e : Expr} {fa : FE} {n : String} {x : Str} {p p2 pos : Pos} (hm : X.mg "isinstance" = none) (hm2 : X.mg x = none) (hv : bootBuiltins x = some (.type n)) (ha : DE X c W e fa) (hgl : Gl X "isinstance" := by rfl) (hgl2 : Gl X x := by rfl) (hk : X.K = c.K := by rfl)
    (hn : x ≠ "__name__" := by decide) (hdb : (x == ("__debug__" : Str)) = false := by decide) (hs : starEach [e, .Name x p2] X.env = (false, eval e X.env) :: starEach [.Name x p2] X.env := by rfl) (hs2 : starEach [.Name x p2] X.env = (false, eval (.Name x p2) X.env) :: starEach [] X.env := by rfl) (hpl : (backTo pos (starEach [.Name x p2] X.env)).any (·.1) = false := by rfl) :
    DE X c W (.Call (.Name "isinstance" p) [e, .Name x p2] [] pos) (fIsi [n] fa) :=
  PE.of (pe_callB (call_isi (X := X)) hgl hm (by decide +kernel) (pa_cons ha (pa_cons (pe_bltn (v := .ty n) hgl2 hm2 hv rfl hn hdb) pa_nil hs2) hs) (by decide) (by decide) hs hpl) fun σ H Q q => by
  obtain ⟨G, env, μ, R, q⟩ := q
  refine ⟨G, env, μ, R, (tG.bind q).imp (fun _ _ _ _ h => h) ?_⟩
  rintro v H1 ⟨G1, μ1, dx, x1, R1, d1, h1⟩
  cases dx with
  | own i => exact h1.elim
  | val d =>
    unfold isi at h1
    split at h1
    · rename_i d' e'
      cases e'
      split at h1
      · rename_i hc
        have hg : tyGo (tyName d) n = true := by
          rw [List.all_cons, Bool.and_eq_true] at hc; exact hc.1
        refine ⟨v, .ty n, .type (tyName d), .type n, subTy (tyName d) n, rfl, .ty n, hk ▸ ty_of R1 d1 (tyGo_list hg), kit_ty (kit_sub hg), ?_⟩
        have e : ([n].any fun n => subTy (tyName d) n) = subTy (tyName d) n := by rw [List.any_cons, List.any_nil, Bool.or_false]
        rw [e] at h1
        exact h1.now Ext.refl R1 (show DatX c G1 σ _ (.val (.bl _)) from Dat.bl _)
      · exact h1.elim
    · exact h1.elim
def tTys (ns : List String) : TA := fun _ H Q => Q (ns.map V.ty) H
theorem pa_ty0 : PA X [] (tTys []) := pa_nil
theorem pa_tyc {x : Str} {n : String} {p : Pos} {es : List Expr} {ns : List String} (hm2 : X.mg x = none) (hv : bootBuiltins x = some (.type n)) (hr : PA X es (tTys ns)) (hgl2 : Gl X x := by rfl) (hn : x ≠ "__name__" := by decide) (hdb : (x == ("__debug__" : Str)) = false := by decide) (hs : starEach (.Name x p :: es) X.env = (false, eval (.Name x p) X.env) :: starEach es X.env := by rfl) : PA X (.Name x p :: es) (tTys (n :: ns)) :=
  PA.of (pa_cons (pe_bltn (v := .ty n) hgl2 hm2 hv rfl hn hdb) hr hs) fun _ _ _ q => q
theorem pair_ty : ∀ ns : List String, Paired ClsV (ns.map V.ty) (ns.map Value.type)
  | [] => .nil
  | n :: ns => .cons (.ty n) (pair_ty ns)
theorem de_isiT {e : Expr} {fa : FE} {n : String} {ns : List String} {es : List Expr} {k : Nat} {p p2 pos : Pos} (hm : X.mg "isinstance" = none) (hts : PA X es (tTys (n :: ns))) (ha : DE X c W e fa) (hl : (n :: ns).length ≤ LIM := by decide) (hgl : Gl X "isinstance" := by rfl) (hk : X.K = c.K := by rfl)
    (hs : starEach [e, .Tuple es k p2] X.env = (false, eval e X.env) :: starEach [.Tuple es k p2] X.env := by rfl) (hs2 : starEach [.Tuple es k p2] X.env = (false, eval (.Tuple es k p2) X.env) :: starEach [] X.env := by rfl) (hpl : (backTo pos (starEach [.Tuple es k p2] X.env)).any (·.1) = false := by rfl) :
    DE X c W (.Call (.Name "isinstance" p) [e, .Tuple es k p2] [] pos) (fIsi (n :: ns) fa) :=
  PE.of (pe_callB (call_isiT (X := X)) hgl hm (by decide +kernel) (pa_cons ha (pa_cons (pe_tup hts) pa_nil hs2) hs) (by decide) (by decide) hs hpl) fun σ H Q q => by
  obtain ⟨G, env, μ, R, q⟩ := q
  refine ⟨G, env, μ, R, (tG.bind q).imp (fun _ _ _ _ h => h) ?_⟩
  rintro v H1 ⟨G1, μ1, dx, x1, R1, d1, h1⟩
  refine ⟨by rw [List.length_map]; exact le_line hl, fun tp htp => ?_⟩
  obtain ⟨R2, x2⟩ := R1.newH (o := .tup ((n :: ns).map V.ty)) htp
  cases dx with
  | own i => exact h1.elim
  | val d =>
    unfold isi at h1
    split at h1
    · rename_i d' e'
      cases e'
      split at h1
      · rename_i hc
        have hg : tyGo (tyName d) n = true := by
          rw [List.all_cons, Bool.and_eq_true] at hc; exact hc.1
        exact ⟨v, tp, (n :: ns).map V.ty, .type (tyName d), (n :: ns).map Value.type, _, rfl, upd_same, pair_ty (n :: ns), hk ▸ ty_of R2 (d1.up x2.gg) (tyGo_list hg), kitAny_sub hc, h1.now x2 R2 (show DatX c _ σ _ (.val (.bl _)) from Dat.bl _)⟩
      · exact h1.elim
    · exact h1.elim
end
end Q
set_option Elab.async false
set_option linter.all false
set_option maxRecDepth 100000
set_option maxHeartbeats 4000000
namespace Q
open PySem PySem.Spec PyProof.Rows L2
inductive SRes where
  | nxt (env : En) (μ : Mu)
  | ret (d : EV) (μ : Mu)
  | brk (env : En) (μ : Mu)
  | cnt (env : En) (μ : Mu)
  | exc (e : Exn) (env : En) (μ : Mu)
  | bad
abbrev FS := En → Mu → SRes
def RM (c : Fx) (H : Hp) : Hp → Hp → V → EV → Prop := fun H' G' v d => match d with
  | .un => False
  | .val d => Dat c.K G' c.L v d
  | .own ds => ∃ a vs, v = .ref a ∧ H' a = some (.lst vs) ∧ G' a = none ∧ a ∉ c.L ∧ H a = none ∧ Dats c.K G' c.L vs ds
  | .dic ks ds => ∃ a bs vs, v = .ref a ∧ H' a = some (DctO c.K.w a (nksD ks) bs vs) ∧ ks.all kOk1 = true ∧ Dats c.K G' c.L (bs.map V.ref) ks ∧ G' a = none ∧ a ∉ c.L ∧ H a = none ∧ Dats c.K G' c.L vs ds
abbrev FM := En → Mu → Res EV
def tM (c : Fx) (W : WX) (f : FM) : TE := fun σ H Q => ∃ G env μ, FRel c σ H G env μ ∧ tG c W σ H G env (RM c H) (f env μ) Q
abbrev DM (X : Cx) (c : Fx) (W : WX) (e : Expr) (f : FM) : Prop := PE X e (tM c W f)
def fMv (f : FE) : FM := fun env μ => (f env μ).bind fun x μ => match x with | .val d => .ok (.val d) μ | _ => .bad
def fMo (f : FE) : FM := fun env μ => (f env μ).bind fun x μ => match x with | .val (.lst ds) => .ok (.own ds) μ | _ => .bad
section
variable {X : Cx} {c : Fx} {W : WX}
theorem dm_val {e : Expr} {f : FE} (h : DE X c W e f) : DM X c W e (fMv f) := PE.of h fun σ H Q q => by
  obtain ⟨G, env, μ, R, q⟩ := q
  refine ⟨G, env, μ, R, (tG.bind q).imp (fun _ _ _ _ h => h) ?_⟩
  rintro x H1 ⟨G1, μ1, dx, x1, R1, d1, h1⟩
  cases dx with
  | own i => exact h1.elim
  | val d => exact h1.now Ext.refl R1 d1
theorem dm_own {e : Expr} {f : FE} (h : DN X c W e f) : DM X c W e (fMo f) := PE.of h fun σ H Q q => by
  obtain ⟨G, env, μ, R, q⟩ := q
  refine ⟨G, env, μ, R, (tG.bind q).imp (fun _ _ _ _ h => h) ?_⟩
  rintro x H1 ⟨G1, μ1, dx, x1, R1, ⟨a, vs, ds, e1, e2, z1, z2, z3, z4, z5⟩, h1⟩
  subst e1 e2
  exact h1.now Ext.refl R1 ⟨a, vs, rfl, z1, z2, z3, z4, z5⟩
def sG (c : Fx) (W : WX) (G0 : Hp) (r : SRes) (D : Ends) : Prop := match r with
  | .nxt env μ => ∀ σ H G, Sub G0 G → FRel c σ H G env μ → D.nx σ H
  | .ret d μ => ∀ v H G, RRel c H G μ → RM c c.H0 H G v d → D.rt v H
  | .brk env μ => ∀ σ H G, Sub G0 G → FRel c σ H G env μ → D.bk σ H
  | .cnt env μ => ∀ σ H G, Sub G0 G → FRel c σ H G env μ → D.ct σ H
  | .exc e env μ => ∀ σ H G cls d, Sub G0 G → FRel c σ H G env μ → XDat c H G cls d e → W cls d σ H
  | .bad => False
theorem sG.shift {G0 G1 : Hp} {r : SRes} {D : Ends} (s : Sub G0 G1) (h : sG c W G0 r D) : sG c W G1 r D := by
  cases r with
  | nxt env μ => exact fun σ H G q f => h σ H G (s.trans q) f
  | ret d μ => exact h
  | brk env μ => exact fun σ H G q f => h σ H G (s.trans q) f
  | cnt env μ => exact fun σ H G q f => h σ H G (s.trans q) f
  | exc e env μ => exact fun σ H G cls d q f x => h σ H G cls d (s.trans q) f x
  | bad => exact h
def tS (c : Fx) (W : WX) (f : FS) : TS := fun D σ H => ∃ G env μ, FRel c σ H G env μ ∧ sG c W G (f env μ) D
abbrev DS (X : Cx) (c : Fx) (W : WX) (st : Stmt) (f : FS) : Prop := PS X st (tS c W f)
abbrev DSs (X : Cx) (c : Fx) (W : WX) (st : List Stmt) (f : FS) : Prop := PSs X st (tS c W f)
def Res.to {α : Type} (r : Res α) (env : En) (k : α → Mu → SRes) : SRes := match r with
  | .ok a μ => k a μ
  | .exc e μ => .exc e env μ
  | .bad => .bad
theorem sG.to {α β : Type} {σ : Sl} {H G : Hp} {env : En} {μ : Mu} {R : Hp → Hp → β → α → Prop} {r : Res α} {k : α → Mu → SRes} {D : Ends} (F : FRel c σ H G env μ) (h : sG c W G (r.to env k) D) :
    tG c W σ H G env R r (fun (v : β) H1 => ∃ G1 μ1 a, Ext c.L H G H1 G1 ∧ FRel c σ H1 G1 env μ1 ∧ R H1 G1 v a ∧ sG c W G1 (k a μ1) D) := by
  cases r with
  | ok a μ => exact fun v H' G' x f d => ⟨G', μ, a, x, f, d, h.shift x.gg⟩
  | exc e μ => exact fun cls d H' G' x f q => h σ H' G' cls d x.gg f q
  | bad => exact h
def fNext : FS := fun env μ => .nxt env μ
def fSeq (f g : FS) : FS := fun env μ => match f env μ with
  | .nxt env μ => g env μ
  | r => r
theorem dss_nil : DSs X c W [] fNext := PSs.of pss_nil fun D σ H q => by
  obtain ⟨G, env, μ, R, q⟩ := q
  exact q σ H G Sub.refl R
theorem dss_cons {st : Stmt} {rest : List Stmt} {f g : FS} (h1 : DS X c W st f) (h2 : DSs X c W rest g) : DSs X c W (st :: rest) (fSeq f g) := PSs.of (pss_cons h1 h2) fun D σ H q => by
  obtain ⟨G, env, μ, R, q⟩ := q
  refine ⟨G, env, μ, R, ?_⟩
  unfold fSeq at q
  cases e : f env μ with
  | nxt env' μ' => rw [e] at q; exact fun σ' H' G' s' R' => ⟨G', env', μ', R', q.shift s'⟩
  | ret d μ' => rw [e] at q; exact q
  | brk env' μ' => rw [e] at q; exact q
  | cnt env' μ' => rw [e] at q; exact q
  | exc x env' μ' => rw [e] at q; exact q
  | bad => rw [e] at q; exact q.elim
theorem dss_one {st : Stmt} {f : FS} (h1 : DS X c W st f) : DSs X c W [st] f := pss_one h1
theorem set_get {α : Type} {l : List α} {i j : Nat} {x y : α} (h : (l.set i x)[j]? = some y) : (j = i ∧ y = x ∧ i < l.length) ∨ (j ≠ i ∧ l[j]? = some y) := by
  by_cases e : j = i
  · subst e
    by_cases hl : j < l.length
    · rw [List.getElem?_set_self hl] at h
      cases h
      exact .inl ⟨rfl, rfl, hl⟩
    · rw [List.getElem?_eq_none (by rw [List.length_set]; omega)] at h
      cases h
  · rw [List.getElem?_set_ne (Ne.symm e)] at h
    exact .inr ⟨e, h⟩
theorem RM.ne_own {σ : Sl} {H G H' G' : Hp} {env : En} {μ : Mu} (R : FRel c σ H G env μ) {a : Addr} (h4 : H a = none) {i : Nat} {ds : List D} (e : env[i]? = some (.own ds)) : σ[i]? ≠ some (some (.ref a)) := fun z => by
  obtain ⟨b, ws, q1, q2, _⟩ := R.own i ds e
  rw [q1] at z
  have z' : b = a := by injection z with z; injection z with z; injection z
  rw [z', h4] at q2; cases q2
theorem FRel.store {σ : Sl} {H G H' G' : Hp} {env : En} {μ μ' : Mu} {v : V} {d : EV} (R : FRel c σ H G env μ) (F : FRel c σ H' G' env μ') (hd : RM c H H' G' v d) (i : Nat) (hi : i < σ.length) : FRel c (σ.set i (some v)) H' G' (env.set i d) μ' := by
  refine ⟨F.toRRel, fun j e h => ?_, fun j es h => ?_, fun j k es fs a h1 h2 h3 h4 => ?_, ?_, fun j ks ds h => ?_, fun j k ks js ds es a h1 h2 h3 h4 => ?_⟩
  rotate_right 2
  · rcases set_get h with ⟨rfl, rfl, hl⟩ | ⟨ne, h⟩
    · obtain ⟨a, bs, vs, rfl, z1, zl, zk, z2, z3, z4, z5⟩ := hd
      exact ⟨a, _, List.getElem?_set_self hi, z1, .inl ⟨bs, vs, rfl, zl, zk, z5⟩, z2, z3, (R.toRRel.fresh z4).1⟩
    · obtain ⟨b, φ, q1, q2⟩ := F.dic j ks ds h
      exact ⟨b, φ, by rw [List.getElem?_set_ne (Ne.symm ne)]; exact q1, q2⟩
  · have one : ∀ (m n : Nat) (ks js : List D) (ds es : List D), (env.set i d)[m]? = some (.dic ks ds) → (env.set i d)[n]? = some (.dic js es) → (σ.set i (some v))[m]? = some (some (.ref a)) → (σ.set i (some v))[n]? = some (some (.ref a)) → m = i → n = i := fun m n ks js ds es q1 q2 q3 q4 hm => by
      refine Classical.byContradiction fun ne => ?_
      subst hm
      rcases set_get q1 with ⟨_, e, _⟩ | ⟨z, _⟩
      · subst e
        obtain ⟨b, bs, vs, rfl, z1, zl, zk, z2, z3, z4, z5⟩ := hd
        rw [List.getElem?_set_self hi] at q3
        have hb : b = a := by injection q3 with q3; injection q3 with q3; injection q3
        subst hb
        rcases set_get q2 with ⟨z, _⟩ | ⟨_, q2⟩
        · exact ne z
        · rw [List.getElem?_set_ne (Ne.symm ne)] at q4
          obtain ⟨b', φ', y1, y2, _⟩ := R.dic n js es q2
          rw [y1] at q4
          have z' : b' = b := by injection q4 with z; injection z with z; injection z
          rw [z', z4] at y2; cases y2
      · exact absurd rfl z
    by_cases hj : j = i
    · rw [hj, one j k ks js ds es h1 h2 h3 h4 hj]
    · by_cases hk : k = i
      · rw [hk, one k j js ks es ds h2 h1 h4 h3 hk]
      · rcases set_get h1 with ⟨z, _⟩ | ⟨_, h1⟩
        · exact absurd z hj
        rcases set_get h2 with ⟨z, _⟩ | ⟨_, h2⟩
        · exact absurd z hk
        rw [List.getElem?_set_ne (Ne.symm hj)] at h3
        rw [List.getElem?_set_ne (Ne.symm hk)] at h4
        exact F.dj j k ks js ds es a h1 h2 h3 h4
  · rcases set_get h with ⟨rfl, rfl, hl⟩ | ⟨ne, h⟩
    · exact ⟨v, List.getElem?_set_self hi, hd⟩
    · obtain ⟨u, q1, q2⟩ := F.val j e h
      exact ⟨u, by rw [List.getElem?_set_ne (Ne.symm ne)]; exact q1, q2⟩
  · rcases set_get h with ⟨rfl, rfl, hl⟩ | ⟨ne, h⟩
    · obtain ⟨a, vs, rfl, z1, z2, z3, z4, z5⟩ := hd
      exact ⟨a, vs, List.getElem?_set_self hi, z1, z2, z3, (R.toRRel.fresh z4).1, z5⟩
    · obtain ⟨b, ws, q1, q2⟩ := F.own j es h
      exact ⟨b, ws, by rw [List.getElem?_set_ne (Ne.symm ne)]; exact q1, q2⟩
  rotate_left
  · rw [List.length_set, List.length_set]; exact F.el
  · have other : ∀ (m : Nat) (gs : List D), (env.set i d)[m]? = some (.own gs) → m ≠ i → env[m]? = some (.own gs) ∧ (σ.set i (some v))[m]? = σ[m]? := fun m gs q ne => by
      rcases set_get q with ⟨z, _⟩ | ⟨_, q⟩
      · exact absurd z ne
      · exact ⟨q, List.getElem?_set_ne (Ne.symm ne)⟩
    have self : ∀ (m : Nat) (gs fs' : List D), (env.set i d)[i]? = some (.own gs) → (σ.set i (some v))[i]? = some (some (.ref a)) → (env.set i d)[m]? = some (.own fs') → (σ.set i (some v))[m]? = some (some (.ref a)) → m = i := fun m gs fs' q1 q2 q3 q4 => by
      refine Classical.byContradiction fun ne => ?_
      obtain ⟨q5, q6⟩ := other m fs' q3 ne
      rw [q6] at q4
      rcases set_get q1 with ⟨_, e, _⟩ | ⟨z, _⟩
      · subst e
        obtain ⟨b, vs, rfl, z1, z2, z3, z4, z5⟩ := hd
        rw [List.getElem?_set_self hi] at q2
        have hb : b = a := by injection q2 with q2; injection q2 with q2; injection q2
        subst hb
        exact RM.ne_own (H' := H) (G' := G) R z4 q5 q4
      · exact absurd rfl z
    by_cases hj : j = i
    · subst hj
      exact (self k es fs h1 h3 h2 h4).symm
    · by_cases hk : k = i
      · subst hk
        exact self j fs es h2 h4 h1 h3
      · obtain ⟨a1, a2⟩ := other j es h1 hj
        obtain ⟨b1, b2⟩ := other k fs h2 hk
        rw [a2] at h3
        rw [b2] at h4
        exact F.inj j k es fs a a1 b1 h3 h4
def fSet (i : Nat) (f : FM) : FS := fun env μ => (f env μ).to env fun d μ => .nxt (env.set i d) μ
theorem PS.ofI {e : Stmt} {t t' : TS} (h : PS X e t) (i : ∀ D σ H, σ.length = X.N.length → t' D σ H → t D σ H) : PS X e t' := ⟨fun pins s σ H D I q => h.run pins s σ H D I (i D σ H I.len q)⟩
theorem ds_set {i : Nat} {x : Str} {e : Expr} {f : FM} {pos pos' : Pos} (hN : X.N.Nodup) (he : DM X c W e f) (hi : X.N[i]? = some x := by rfl) (hx : Loc X.env.scope x := by first | exact Or.inl rfl | exact Or.inr rfl) (hs : swapsWith e (some (.Name x pos')) pos.line X.env = pure false := by rfl) (hf : X.fn x = true ∨ X.env.scope.names.lookup x = some .local := by first | exact .inl rfl | exact .inr rfl) :
    DS X c W (.Assign [.Name x pos'] e pos) (fSet i f) := PS.ofI (ps_set hN hi hx he hs hf) fun D σ H hl q => by
  have hi' : i < σ.length := by rw [hl]; exact (List.getElem?_eq_some_iff.mp hi).1
  obtain ⟨G, env, μ, R, q⟩ := q
  refine ⟨G, env, μ, R, (sG.to R q).imp (fun _ _ _ _ h => h) ?_⟩
  rintro v H1 ⟨G1, μ1, d, x1, R1, d1, h1⟩
  exact h1 _ _ _ Sub.refl (R.store R1 d1 i hi')
def fFrz (i : Nat) (f : FS) : FS := fun env μ => match env[i]? with
  | some (.own ds) => f (env.set i (.val (.lst ds))) μ
  | _ => f env μ
theorem FRel.frzSlot {σ : Sl} {H G : Hp} {env : En} {μ : Mu} (R : FRel c σ H G env μ) {i : Nat} {ds : List D} (e : env[i]? = some (.own ds)) : ∃ G', Sub G G' ∧ FRel c σ H G' (env.set i (.val (.lst ds))) μ := by
  obtain ⟨a, vs, h1, h2, h3, h4, h5, h6⟩ := R.own i ds e
  have g : Sub G (upd G a (.lst vs)) := sub_upd h3
  obtain ⟨dA, dB⟩ := R.dics (σ' := σ) (H' := H) (G' := upd G a (.lst vs)) (env' := env.set i (.val (.lst ds))) (fun j ks ds q => by
    rcases set_get q with ⟨_, q', _⟩ | ⟨_, q⟩
    · cases q'
    · exact ⟨q, rfl⟩) (fun _ _ q _ => q) (fun b kvs q1 q2 => by
    have hb : b ≠ a := fun z => by rw [z, h2] at q1; cases q1
    rw [upd_ne hb]; exact q2) g
  refine ⟨upd G a (.lst vs), g, ⟨⟨fun b o q => ?_, R.nd, R.len, fun n b es e1 e2 => ?_, R.keep, R.gg.trans g, fun b o q => ?_, fun b o q => nt_upd (o := .lst vs) R.nt True.intro q⟩, fun j d q => ?_, fun j es q => ?_, fun j k es fs b q1 q2 q3 q4 => ?_, by rw [List.length_set]; exact R.el, dA, dB⟩⟩
  · by_cases h : b = a
    · subst h; rw [upd_same] at q; rw [h2]; exact q
    · rw [upd_ne h] at q; exact R.sub b o q
  · obtain ⟨q1, ws, q2, q3⟩ := R.loc n b es e1 e2
    have hb : b ≠ a := fun z => h4 (z ▸ List.mem_of_getElem? e1)
    exact ⟨by rw [upd_ne hb]; exact q1, ws, q2, q3.up g⟩
  · by_cases h : b = a
    · subst h; exact .inr ⟨h5, h4⟩
    · rw [upd_ne h] at q; exact R.newG b o q
  · rcases set_get q with ⟨rfl, q', _⟩ | ⟨ne, q⟩
    · cases q'
      exact ⟨_, h1, Dat.lst upd_same (h6.up g)⟩
    · obtain ⟨v, q1, q2⟩ := R.val j d q
      exact ⟨v, q1, q2.up g⟩
  · rcases set_get q with ⟨rfl, q', _⟩ | ⟨ne, q⟩
    · cases q'
    · obtain ⟨b, ws, q1, q2, q3, q4, q5, q6⟩ := R.own j es q
      have hb : b ≠ a := fun z => ne (R.inj j i es ds a q e (z ▸ q1) h1)
      exact ⟨b, ws, q1, q2, by rw [upd_ne hb]; exact q3, q4, q5, q6.up g⟩
  · rcases set_get q1 with ⟨_, q', _⟩ | ⟨_, q1⟩
    · cases q'
    · rcases set_get q2 with ⟨_, q', _⟩ | ⟨_, q2⟩
      · cases q'
      · exact R.inj j k es fs b q1 q2 q3 q4
theorem tS.frz {f : FS} {i : Nat} {D : Ends} {σ : Sl} {H : Hp} (q : tS c W (fFrz i f) D σ H) : tS c W f D σ H := by
  obtain ⟨G, env, μ, R, q⟩ := q
  unfold fFrz at q
  split at q
  · rename_i ds e
    obtain ⟨G', g, R'⟩ := R.frzSlot e
    exact ⟨G', _, μ, R', q.shift g⟩
  · exact ⟨G, env, μ, R, q⟩
theorem ds_frz (i : Nat) {st : Stmt} {f : FS} (h : DS X c W st f) : DS X c W st (fFrz i f) := PS.of h fun _ _ _ q => q.frz
def fRet (f : FM) : FS := fun env μ => (f env μ).to env fun d μ => .ret d μ
theorem RM.base {H G H1 G1 H' G' : Hp} (x : Ext c.L H G H1 G1) {v : V} {d : EV} (h : RM c H1 H' G' v d) : RM c H H' G' v d := by
  cases d with
  | un => exact h
  | val d => exact h
  | own ds =>
    obtain ⟨a, vs, e1, h1, h2, h3, h4, h5⟩ := h
    refine ⟨a, vs, e1, h1, h2, h3, ?_, h5⟩
    cases e : H a with
    | none => rfl
    | some u => rw [x.keep a u e h3] at h4; cases h4
  | dic ks ds =>
    obtain ⟨a, bs, vs, e1, h1, hl, hk, h2, h3, h4, h5⟩ := h
    refine ⟨a, bs, vs, e1, h1, hl, hk, h2, h3, ?_, h5⟩
    cases e : H a with
    | none => rfl
    | some u => rw [x.keep a u e h3] at h4; cases h4
theorem RM.entry {σ : Sl} {H G H' G' : Hp} {env : En} {μ : Mu} (R : FRel c σ H G env μ) {v : V} {d : EV} (h : RM c H H' G' v d) : RM c c.H0 H' G' v d := by
  cases d with
  | un => exact h
  | val d => exact h
  | own ds =>
    obtain ⟨a, vs, e1, h1, h2, h3, h4, h5⟩ := h
    exact ⟨a, vs, e1, h1, h2, h3, (R.toRRel.fresh h4).1, h5⟩
  | dic ks ds =>
    obtain ⟨a, bs, vs, e1, h1, hl, hk, h2, h3, h4, h5⟩ := h
    exact ⟨a, bs, vs, e1, h1, hl, hk, h2, h3, (R.toRRel.fresh h4).1, h5⟩
theorem ds_ret {e : Expr} {f : FM} {pos : Pos} (he : DM X c W e f) : DS X c W (.Return (some e) pos) (fRet f) := PS.of (ps_ret he) fun D σ H q => by
  obtain ⟨G, env, μ, R, q⟩ := q
  refine ⟨G, env, μ, R, (sG.to R q).imp (fun _ _ _ _ h => h) ?_⟩
  rintro v H1 ⟨G1, μ1, d, x1, R1, d1, h1⟩
  exact h1 _ _ _ R1.toRRel (d1.entry R)
def fRetO (i : Nat) : FS := fun env μ => match env[i]? with
  | some (.own ds) => .ret (.own ds) μ
  | some (.val d) => .ret (.val d) μ
  | _ => .bad
theorem ds_retO (i : Nat) {x : Str} {p pos : Pos} (hN : X.N[i]? = some x := by rfl) (hv : Vis X.env.scope x := by first | exact Or.inl rfl | exact Or.inr (Or.inl rfl) | exact Or.inr (Or.inr rfl)) (hd : (x == ("__debug__" : Str)) = false := by decide) (hcd : (x == ("__classdict__" : Str)) = false := by decide) : DS X c W (.Return (some (.Name x p)) pos) (fRetO i) := PS.of (ps_ret (pe_var hN hv hd hcd)) fun D σ H q => by
  obtain ⟨G, env, μ, R, q⟩ := q
  unfold fRetO at q
  split at q
  · rename_i ds e
    obtain ⟨a, vs, h1, h2, h3, h4, h5, h6⟩ := R.own i ds e
    exact ⟨_, h1, q _ _ _ R.toRRel ⟨a, vs, rfl, h2, h3, h4, h5, h6⟩⟩
  · rename_i d e
    obtain ⟨v, h1, h2⟩ := R.val i d e
    exact ⟨_, h1, q _ _ _ R.toRRel h2⟩
  · exact q.elim
def fIfS (ft : FT) (f g : FS) : FS := fun env μ => (ft env μ).to env fun b μ => if b then f env μ else g env μ
theorem ds_if {t : Expr} {a b : List Stmt} {pos : Pos} {ft : FT} {f g : FS} (ht : DT X c W t ft) (ha : DSs X c W a f) (hb : DSs X c W b g) : DS X c W (.If t a b pos) (fIfS ft f g) := PS.of (ps_if ht ha hb) fun D σ H q => by
  obtain ⟨G, env, μ, R, q⟩ := q
  refine ⟨G, env, μ, R, (sG.to R q).imp (fun _ _ _ _ h => h) ?_⟩
  rintro v H1 ⟨G1, μ1, d, x1, R1, d1, h1⟩
  cases d1
  cases v with
  | true => exact (if_pos rfl).mpr ⟨G1, env, μ1, R1, h1⟩
  | false => exact (if_neg Bool.false_ne_true).mpr ⟨G1, env, μ1, R1, h1⟩
def fDrop (f : FE) : FS := fun env μ => (f env μ).to env fun _ μ => .nxt env μ
def getL (env : En) (μ : Mu) (i : Nat) : Option (List D) := match env[i]? with
  | some (.own ds) => some ds
  | some (.val (.loc n)) => μ[n]?
  | _ => none
def putL (env : En) (μ : Mu) (i : Nat) (ds : List D) : En × Mu := match env[i]? with
  | some (.own _) => (env.set i (.own ds), μ)
  | some (.val (.loc n)) => (env, μ.set n ds)
  | _ => (env, μ)
theorem FRel.mut {σ : Sl} {H G : Hp} {env : En} {μ : Mu} (R : FRel c σ H G env μ) {i : Nat} {ds : List D} (e : getL env μ i = some ds) : ∃ a vs, σ[i]? = some (some (.ref a)) ∧ H a = some (.lst vs) ∧ Dats c.K G c.L vs ds ∧
    ∀ ws es, Dats c.K G c.L ws es → FRel c σ (upd H a (.lst ws)) G (putL env μ i es).1 (putL env μ i es).2 := by
  unfold getL at e
  split at e
  · rename_i es ee
    cases e
    obtain ⟨a, vs, h1, h2, h3, h4, h5, h6⟩ := R.own i ds ee
    refine ⟨a, vs, h1, h2, h6, fun ws es hd => ?_⟩
    have hp : putL env μ i es = (env.set i (.own es), μ) := by unfold putL; rw [ee]
    rw [hp]
    have ga : ∀ b o, G b = some o → b ≠ a := fun b o q z => by rw [z, h3] at q; cases q
    obtain ⟨dA, dB⟩ := R.dics (σ' := σ) (H' := upd H a (.lst ws)) (G' := G) (env' := env.set i (.own es)) (fun j ks ds q => by
      rcases set_get q with ⟨_, q', _⟩ | ⟨_, q⟩
      · cases q'
      · exact ⟨q, rfl⟩) (fun b kvs q _ => by
      have hb : b ≠ a := fun z => by rw [z, h2] at q; cases q
      rw [upd_ne hb]; exact q) (fun _ _ _ q => q) Sub.refl
    refine ⟨⟨fun b o q => by rw [upd_ne (ga b o q)]; exact R.sub b o q, R.nd, R.len, fun n b fs e1 e2 => ?_, fun b o q n => ?_, R.gg, R.newG, R.nt⟩, fun j d q => ?_, fun j fs q => ?_, fun j k fs gs b q1 q2 q3 q4 => ?_, by rw [List.length_set]; exact R.el, dA, dB⟩
    · obtain ⟨q1, us, q2, q3⟩ := R.loc n b fs e1 e2
      have hb : b ≠ a := fun z => h4 (z ▸ List.mem_of_getElem? e1)
      exact ⟨q1, us, by rw [upd_ne hb]; exact q2, q3⟩
    · have hb : b ≠ a := fun z => by rw [z, h5] at q; cases q
      rw [upd_ne hb]; exact R.keep b o q n
    · rcases set_get q with ⟨_, q', _⟩ | ⟨_, q⟩
      · cases q'
      · exact R.val j d q
    · rcases set_get q with ⟨rfl, q', _⟩ | ⟨ne, q⟩
      · cases q'
        exact ⟨a, ws, h1, upd_same, h3, h4, h5, hd⟩
      · obtain ⟨b, us, q1, q2, q3, q4, q5, q6⟩ := R.own j fs q
        have hb : b ≠ a := fun z => ne (R.inj j i fs ds a q ee (z ▸ q1) h1)
        exact ⟨b, us, q1, by rw [upd_ne hb]; exact q2, q3, q4, q5, q6⟩
    · have up : ∀ (m : Nat) (hs : List D), (env.set i (.own es))[m]? = some (.own hs) → ∃ hs', env[m]? = some (.own hs') := fun m hs q => by
        rcases set_get q with ⟨rfl, _, _⟩ | ⟨_, q⟩
        · exact ⟨_, ee⟩
        · exact ⟨_, q⟩
      obtain ⟨_, u1⟩ := up j fs q1
      obtain ⟨_, u2⟩ := up k gs q2
      exact R.inj j k _ _ b u1 u2 q3 q4
  · rename_i n ee
    obtain ⟨v, h1, h2⟩ := R.val i _ ee
    cases h2 with
    | loc hl =>
      rename_i a
      obtain ⟨g, vs, q1, q2⟩ := R.loc n a ds hl e
      refine ⟨a, vs, h1, q1, q2, fun ws es hd => ?_⟩
      have hp : putL env μ i es = (env, μ.set n es) := by unfold putL; rw [ee]
      rw [hp]
      have ma : a ∈ c.L := List.mem_of_getElem? hl
      have ga : ∀ b o, G b = some o → b ≠ a := fun b o q z => by rw [z, g] at q; cases q
      obtain ⟨dA, dB⟩ := R.dics (σ' := σ) (H' := upd H a (.lst ws)) (G' := G) (env' := env) (fun j ks ds q => ⟨q, rfl⟩) (fun b kvs q nb => by
        have hb : b ≠ a := fun z => nb (z ▸ ma)
        rw [upd_ne hb]; exact q) (fun _ _ _ q => q) Sub.refl
      refine ⟨⟨fun b o q => by rw [upd_ne (ga b o q)]; exact R.sub b o q, R.nd, by rw [List.length_set]; exact R.len, fun m b fs e1 e2 => ?_, fun b o q nb => ?_, R.gg, R.newG, R.nt⟩, R.val, fun j fs q => ?_, R.inj, R.el, dA, dB⟩
      · rcases set_get e2 with ⟨rfl, e2', _⟩ | ⟨ne, e2⟩
        · rw [hl] at e1; cases e1
          subst e2'
          exact ⟨g, ws, upd_same, hd⟩
        · obtain ⟨z1, us, z2, z3⟩ := R.loc m b fs e1 e2
          have hb : b ≠ a := fun z => ne (by
            have h1 := (List.getElem?_eq_some_iff.mp e1)
            have h2 := (List.getElem?_eq_some_iff.mp hl)
            obtain ⟨l1, e1'⟩ := h1
            obtain ⟨l2, e2'⟩ := h2
            exact (List.getElem_inj R.nd).mp (by rw [e1', e2', z]))
          exact ⟨z1, us, by rw [upd_ne hb]; exact z2, z3⟩
      · have hb : b ≠ a := fun z => nb (z ▸ ma)
        rw [upd_ne hb]; exact R.keep b o q nb
      · obtain ⟨b, us, z1, z2, z3, z4, z5, z6⟩ := R.own j fs q
        have hb : b ≠ a := fun z => z4 (z ▸ ma)
        exact ⟨b, us, z1, by rw [upd_ne hb]; exact z2, z3, z4, z5, z6⟩
  · cases e
def fApp (i : Nat) (fa : FE) : FS := fun env μ => match getL env μ i with
  | none => .bad
  | some _ => (fa env μ).to env fun x μ => match x, getL env μ i with
    | .val d, some ds => if ds.length < LIM then .nxt (putL env μ i (ds ++ [d])).1 (putL env μ i (ds ++ [d])).2 else .bad
    | _, _ => .bad
theorem ds_app (i : Nat) {x : Str} {e : Expr} {fa : FE} {p apos pos pos' : Pos} {T : TE} (ho : PE X (.Name x p) (tVar i)) (ha : DE X c W e fa)
    (h : PS X (.Expr (.Call (.Attribute (.Name x p) "append" apos) [e] [] pos) pos') (tDrop (tBM X.K "list" rAppend (tVar i) (tCons (tE c W fa) tNil)))) : DS X c W (.Expr (.Call (.Attribute (.Name x p) "append" apos) [e] [] pos) pos') (fApp i fa) := PS.of h fun D σ H q => by
  obtain ⟨G, env, μ, R, q⟩ := q
  unfold fApp at q
  split at q
  · exact q.elim
  · rename_i ds0 e0
    obtain ⟨a, vs, h1, h2, h3, _⟩ := R.mut e0
    refine ⟨.ref a, h1, .inl ⟨rfl, vs, SqL.of h2⟩, G, env, μ, R, (sG.to R q).imp (fun _ _ _ _ h => h) ?_⟩
    rintro v H1 ⟨G1, μ1, dx, x1, R1, d1, q1⟩
    cases dx with
    | own j => exact q1.elim
    | val d =>
      split at q1
      · rename_i d' ds1 ed e1
        cases ed
        split at q1
        · rename_i hl
          obtain ⟨b, ws, z1, z2, z3, z4⟩ := R1.mut e1
          rw [h1] at z1
          have hb : a = b := by injection z1 with z1; injection z1 with z1; injection z1
          subst hb
          refine ⟨a, ws, v, rfl, rfl, z2, by rw [z3.length, ← LIM_eq]; exact hl, ?_⟩
          exact q1 _ _ _ Sub.refl (z4 (ws ++ [v]) (ds1 ++ [d]) (z3.append (.cons d1 .nil)))
        · exact q1.elim
      · exact q1.elim
theorem ds_append (i : Nat) {x : Str} {e : Expr} {fa : FE} {p apos pos pos' : Pos} (ha : DE X c W e fa) (hN : X.N[i]? = some x := by rfl) (hv : Vis X.env.scope x := by first | exact Or.inl rfl | exact Or.inr (Or.inl rfl) | exact Or.inr (Or.inr rfl)) (hd : (x == ("__debug__" : Str)) = false := by decide) (hcd : (x == ("__classdict__" : Str)) = false := by decide)
    (hbase : attributeBase (.Name x p) "append" X.env (eval (.Name x p) X.env) = eval (.Name x p) X.env := by rfl)
    (hfew : ((backTo pos (starEach [e] X.env)).all (fun x => !x.1) && (backToKw pos (keywordEach [] X.env)).all (fun x => x.1.isSome) && decide ([e].length + ([] : List Keyword).length + (if ([] : List Keyword).isEmpty then 0 else 1) < 30)) = true := by rfl)
    (hline : (apos.endLine == pos.line) = true := by rfl) (hs : starEach [e] X.env = (false, eval e X.env) :: starEach [] X.env := by rfl) (hsw : swapsWith (.Call (.Attribute (.Name x p) "append" apos) [e] [] pos) none pos'.line X.env = pure false := by rfl) :
    DS X c W (.Expr (.Call (.Attribute (.Name x p) "append" apos) [e] [] pos) pos') (fApp i fa) :=
  ds_app (T := tVar i) i (pe_var hN hv hd hcd) ha (ps_expr (pe_bm PySem.F.plainAttrs_list PySem.F.slot_list_append PySem.F.type_list_append mt_append (pe_var hN hv hd hcd) (pa_cons ha pa_nil hs) hbase hfew hline hs (by rfl)) hsw)
end
end Q
set_option Elab.async false
set_option linter.all false
set_option maxRecDepth 100000
set_option maxHeartbeats 4000000
namespace Q
open PySem PySem.Spec PyProof.Rows L2
inductive Tg where
  | nm (i : Nat) | tp (ts : List Tg)
mutual
def Tg.slots : Tg → List Nat
  | .nm i => [i]
  | .tp ts => Tg.slotss ts
def Tg.slotss : List Tg → List Nat
  | [] => []
  | t :: ts => Tg.slots t ++ Tg.slotss ts
end
mutual
def Tg.bind : Tg → D → En → Option En
  | .nm i, d, env => if i < env.length then some (env.set i (.val d)) else none
  | .tp ts, .tup ds, env => Tg.binds ts ds env
  | .tp ts, .lst ds, env => Tg.binds ts ds env
  | .tp _, _, _ => none
def Tg.binds : List Tg → List D → En → Option En
  | [], [], env => some env
  | t :: ts, d :: ds, env => match Tg.bind t d env with
    | some env => Tg.binds ts ds env
    | none => none
  | _, _, _ => none
end
def Off (vs : List Nat) (σ σ' : Sl) : Prop := σ'.length = σ.length ∧ ∀ j, j ∉ vs → σ'[j]? = σ[j]?
theorem Off.refl {vs : List Nat} {σ : Sl} : Off vs σ σ := ⟨rfl, fun _ _ => rfl⟩
theorem Off.trans {vs ws : List Nat} {σ σ1 σ2 : Sl} (a : Off vs σ σ1) (b : Off ws σ1 σ2) : Off (vs ++ ws) σ σ2 :=
  ⟨b.1.trans a.1, fun j h => (b.2 j fun z => h (List.mem_append_right _ z)).trans (a.2 j fun z => h (List.mem_append_left _ z))⟩
def tGt (c : Fx) (t : Tg) : TG := fun v σ H Q => ∃ G env μ d env', FRel c σ H G env μ ∧ Dat c.K G c.L v d ∧ t.bind d env = some env' ∧ ∀ σ', FRel c σ' H G env' μ → Off t.slots σ σ' → Q σ' H
def tGts (c : Fx) (ts : List Tg) : TGs := fun vs σ H Q => ∃ G env μ ds env', FRel c σ H G env μ ∧ Dats c.K G c.L vs ds ∧ Tg.binds ts ds env = some env' ∧ ∀ σ', FRel c σ' H G env' μ → Off (Tg.slotss ts) σ σ' → Q σ' H
theorem PG.of {X : Cx} {e : Expr} {t t' : TG} (h : PG X e t) (i : ∀ v σ H Q, t' v σ H Q → t v σ H Q) : PG X e t' := ⟨fun pins s σ H v u Q I r q => h.run pins s σ H v u Q I r (i v σ H Q q)⟩
theorem PGs.of {X : Cx} {e : List Expr} {t t' : TGs} (h : PGs X e t) (i : ∀ v σ H Q, t' v σ H Q → t v σ H Q) : PGs X e t' := ⟨fun pins s σ H v u Q I r q => h.run pins s σ H v u Q I r (i v σ H Q q)⟩
abbrev DG (X : Cx) (c : Fx) (e : Expr) (t : Tg) : Prop := PG X e (tGt c t)
section
variable {X : Cx} {c : Fx} {W : WX}
theorem dg_name (i : Nat) {x : Str} {pos : Pos} (hN : X.N.Nodup) (hi : X.N[i]? = some x := by rfl) (hx : Loc X.env.scope x := by first | exact Or.inl rfl | exact Or.inr rfl) (hf : X.fn x = true ∨ X.env.scope.names.lookup x = some .local := by first | exact .inl rfl | exact .inr rfl) : DG X c (.Name x pos) (.nm i) := PG.of (pg_name hN hi hx hf) fun v σ H Q q => by
  obtain ⟨G, env, μ, d, env', R, dd, e, q⟩ := q
  simp only [Tg.bind] at e
  split at e
  · rename_i hl
    cases e
    refine q _ (R.store (H' := H) (G' := G) (d := .val d) R dd i (by rw [← R.el]; exact hl)) ⟨List.length_set, fun j hj => ?_⟩
    exact List.getElem?_set_ne fun z => hj (by rw [← z]; exact List.mem_singleton.mpr rfl)
  · cases e
theorem dgs_nil : PGs X [] (tGts c []) := PGs.of pgs_nil fun v σ H Q q => by
  obtain ⟨G, env, μ, ds, env', R, dd, e, q⟩ := q
  cases dd with
  | nil => cases e; exact ⟨rfl, q σ R Off.refl⟩
  | cons _ _ => cases e
theorem dgs_cons {e : Expr} {es : List Expr} {t : Tg} {ts : List Tg} (h1 : DG X c e t) (h2 : PGs X es (tGts c ts)) (hs : (assignEach (e :: es) X.env).map (·.2) = assign e X.env :: (assignEach es X.env).map (·.2) := by rfl) : PGs X (e :: es) (tGts c (t :: ts)) := PGs.of (pgs_cons h1 h2 hs) fun v σ H Q q => by
  obtain ⟨G, env, μ, ds, env', R, dd, e, q⟩ := q
  cases dd with
  | nil => cases e
  | cons d1 d2 =>
    rename_i x d vs ds
    simp only [Tg.binds] at e
    split at e
    · rename_i env1 e1
      refine ⟨x, vs, rfl, G, env, μ, d, env1, R, d1, e1, fun σ1 R1 o1 => ?_⟩
      exact ⟨G, env1, μ, ds, env', R1, d2, e, fun σ2 R2 o2 => q σ2 R2 (o1.trans o2)⟩
    · cases e
theorem binds_len : ∀ {ts : List Tg} {ds : List D} {env env' : En}, Tg.binds ts ds env = some env' → ds.length = ts.length
  | [], [], _, _, _ => rfl
  | [], _ :: _, _, _, h => by cases h
  | _ :: _, [], _, _, h => by cases h
  | t :: ts, d :: ds, env, env', h => by
    simp only [Tg.binds] at h
    split at h
    · exact congrArg (· + 1) (binds_len h)
    · cases h
theorem dg_tup {es : List Expr} {k : Nat} {pos : Pos} {ts : List Tg} (hc : X.calm = true) (h : PGs X es (tGts c ts)) (hn : (assignEach es X.env).length = ts.length := by rfl) (hst : (assignEach es X.env).findIdx? (·.1) = none := by rfl) (hk : X.K = c.K := by rfl) : DG X c (.Tuple es k pos) (.tp ts) := ⟨fun pins s σ H v u Q I r q => by
  obtain ⟨G, env, μ, d, env', R, dd, e, q⟩ := q
  cases dd with
  | tup s t =>
    simp only [Tg.bind] at e
    exact (pg_tup hc h hn hst).run pins _ σ H _ u Q I r ⟨_, _, rfl, hk ▸ R.sub.sqT s, by rw [t.length]; exact binds_len e, G, env, μ, _, env', R, t, e, q⟩
  | lst s t =>
    simp only [Tg.bind] at e
    exact (pg_lst hc h hn hst).run pins _ σ H _ u Q I r ⟨_, _, rfl, SqL.of (R.sub _ _ s), by rw [t.length]; exact binds_len e, G, env, μ, _, env', R, t, e, q⟩
  | _ => cases e⟩
def fPar (i j : Nat) (f g : FM) : FS := fun env μ => (f env μ).to env fun d μ => (g env μ).to env fun e μ => .nxt ((env.set i d).set j e) μ
theorem ds_par {i j : Nat} {x y : Str} {a b : Expr} {f g : FM} {px py pt : Pos} {kt k2 pt2 pos} (hc : X.calm = true) (hN : X.N.Nodup) (ha : DM X c W a f) (hb : DM X c W b g) (hi : X.N[i]? = some x := by rfl) (hj : X.N[j]? = some y := by rfl) (hij : i ≠ j := by decide)
    (hx : X.env.scope.names.lookup x = some .local := by rfl) (hy : X.env.scope.names.lookup y = some .local := by rfl)
    (hs1 : starEach [a, b] X.env = (false, eval a X.env) :: starEach [b] X.env := by rfl) (hs2 : starEach [b] X.env = (false, eval b X.env) :: starEach [] X.env := by rfl)
    (hw : swappedStores [.Tuple [.Name x px, .Name y py] kt pt] (.Tuple [a, b] k2 pt2) X.env = pure (some [x, y]) := by rfl)
    (hs : swapsWithSole [.Tuple [.Name x px, .Name y py] kt pt] (.Tuple [a, b] k2 pt2) pos.line X.env = pure false := by rfl) : DS X c W (.Assign [.Tuple [.Name x px, .Name y py] kt pt] (.Tuple [a, b] k2 pt2) pos) (fPar i j f g) :=
  PS.ofI (ps_par hc hN hi hj hij hx hy (pa_cons ha (pa_cons hb pa_nil hs2) hs1) hw hs) fun D σ H hl q => by
  have hi' : i < σ.length := by rw [hl]; exact (List.getElem?_eq_some_iff.mp hi).1
  have hj' : j < σ.length := by rw [hl]; exact (List.getElem?_eq_some_iff.mp hj).1
  obtain ⟨G, env, μ, R, q⟩ := q
  refine ⟨G, env, μ, R, (sG.to R q).imp (fun _ _ _ _ h => h) ?_⟩
  rintro v H1 ⟨G1, μ1, d, x1, R1, d1, h1⟩
  refine ⟨G1, env, μ1, R1, (sG.to R1 h1).imp (fun _ _ _ _ h => h) ?_⟩
  rintro w H2 ⟨G2, μ2, e, x2, R2, d2, h2⟩
  refine ⟨v, w, rfl, h2 _ _ _ Sub.refl ?_⟩
  have d1' : RM c H H2 G2 v d := by
    cases d with
    | un => exact d1
    | val d => exact Dat.up x2.gg d1
    | dic ks ds =>
      obtain ⟨a, bs, vs, e1, z1, zl, zk, z2, z3, z4, z5⟩ := d1
      refine ⟨a, bs, vs, e1, x2.keep _ _ z1 z3, zl, zk.up x2.gg, ?_, z3, z4, z5.up x2.gg⟩
      cases q : G2 a with
      | none => rfl
      | some o =>
        rcases x2.newG a o q with z | ⟨z, _⟩
        · rw [z2] at z; cases z
        · rw [z1] at z; cases z
    | own ds =>
      obtain ⟨a, vs, e1, z1, z2, z3, z4, z5⟩ := d1
      refine ⟨a, vs, e1, x2.keep _ _ z1 z3, ?_, z3, z4, z5.up x2.gg⟩
      cases q : G2 a with
      | none => rfl
      | some o =>
        rcases x2.newG a o q with z | ⟨z, _⟩
        · rw [z2] at z; cases z
        · rw [z1] at z; cases z
  -- first into i
  have F1 : FRel c (σ.set i (some v)) H1 G1 (env.set i d) μ1 := R.store R1 d1 i hi'
  have F2 : FRel c (σ.set i (some v)) H2 G2 (env.set i d) μ2 := R.store R2 d1' i hi'
  exact F1.store F2 d2 j (by rw [List.length_set]; exact hj')
structure WalkD (c : Fx) (Gd : Hp → Hp → Prop) (J : It) (ds : List D) : Prop where
  go : ∀ i H G, i < ds.length → Gd H G → J.go i H
  stop : ∀ H G, Gd H G → J.stop ds.length H
  yld : ∀ i H G x H', i < ds.length → Gd H G → Sub G H → J.yld i H x H' → ∃ G2, Sub H H' ∧ Sub G G2 ∧ Sub G2 H' ∧ (∀ b o, G2 b = some o → G b = some o ∨ (H b = none ∧ TOk o)) ∧ ∃ d, ds[i]? = some d ∧ Dat c.K G2 c.L x d
abbrev FI := En → Mu → Res (List D)
def iG (c : Fx) (W : WX) (σ : Sl) (H G : Hp) (env : En) (r : Res (List D)) (R : It → Hp → Prop) : Prop := match r with
  | .ok ds μ' => ∀ J H' G', Ext c.L H G H' G' → FRel c σ H' G' env μ' → WalkD c (fun H G => Sub G' G ∧ Sub G H) J ds → R J H'
  | .exc e μ' => ∀ cls d H' G', Ext c.L H G H' G' → FRel c σ H' G' env μ' → XDat c H' G' cls d e → W cls d σ H'
  | .bad => False
theorem iG.bind {α β : Type} {σ : Sl} {H G : Hp} {env : En} {R' : Hp → Hp → β → α → Prop} {r : Res α} {g : α → Mu → Res (List D)} {R : It → Hp → Prop} (h : iG c W σ H G env (r.bind g) R) :
    tG c W σ H G env R' r (fun (v : β) H1 => ∃ G1 μ1 a, Ext c.L H G H1 G1 ∧ FRel c σ H1 G1 env μ1 ∧ R' H1 G1 v a ∧ iG c W σ H1 G1 env (g a μ1) R) := by
  cases r with
  | ok a μ =>
    intro v H' G' x f d
    refine ⟨G', μ, a, x, f, d, ?_⟩
    have h' : iG c W σ H G env (g a μ) R := h
    revert h'
    cases g a μ with
    | ok ds m => exact fun h J H2 G2 y f2 w => h J H2 G2 (x.trans y) f2 w
    | exc e m => exact fun h cls d H2 G2 y f2 q => h cls d H2 G2 (x.trans y) f2 q
    | bad => exact id
  | exc e μ => exact h
  | bad => exact h
theorem iG.now {σ : Sl} {H G : Hp} {env : En} {μ : Mu} {ds : List D} {R : It → Hp → Prop} {J : It} (h : iG c W σ H G env (.ok ds μ) R) (F : FRel c σ H G env μ) (w : WalkD c (fun H2 G2 => Sub G G2 ∧ Sub G2 H2) J ds) : R J H := h J H G Ext.refl F w
def tI (c : Fx) (W : WX) (f : FI) : TI := fun σ H R => ∃ G env μ, FRel c σ H G env μ ∧ iG c W σ H G env (f env μ) R
abbrev DI (X : Cx) (c : Fx) (W : WX) (tg iter : Expr) (f : FI) : Prop := PI X tg iter (tI c W f)
theorem PI.of {X : Cx} {tg e : Expr} {t t' : TI} (h : PI X tg e t) (i : ∀ σ H Q, t' σ H Q → t σ H Q) : PI X tg e t' := ⟨fun pins s σ H Q I q => h.run pins s σ H Q I (i σ H Q q)⟩
def loop (t : Tg) (body : FS) : List D → En → Mu → SRes
  | [], env, μ => .nxt env μ
  | d :: ds, env, μ => match t.bind d env with
    | none => .bad
    | some env => match body env μ with
      | .nxt env μ => loop t body ds env μ
      | .cnt env μ => loop t body ds env μ
      | .brk env μ => .nxt env μ
      | r => r
def fFor (fi : FI) (t : Tg) (body : FS) : FS := fun env μ => (fi env μ).to env fun ds μ => loop t body ds env μ
theorem drop_at {α : Type} {l : List α} {i : Nat} {d : α} (h : l[i]? = some d) : l.drop i = d :: l.drop (i + 1) := by
  obtain ⟨hl, e⟩ := List.getElem?_eq_some_iff.mp h
  rw [← e]; exact List.drop_eq_getElem_cons hl
theorem ds_for {iter tg : Expr} {body : List Stmt} {pos : Pos} {fi : FI} {t : Tg} {fb : FS} (hp : PassesOwn (model X.prog X.w) X.A X.env X.xe) (hc : X.calm = true) (hi : DI X c W tg iter fi) (hg : DG X c tg t) (hb : DSs X c W body fb)
    (hs : ∀ x, foldedSetIterable iter X.env x = pure x := by intro _; rfl) : DS X c W (.For tg iter body [] pos) (fFor fi t fb) := PS.of (ps_for hp hc hi hg hb hs) fun D σ H q => by
  obtain ⟨G, env, μ, R, q⟩ := q
  refine ⟨G, env, μ, R, ?_⟩
  unfold fFor at q
  cases e : fi env μ with
  | bad => rw [e] at q; exact q
  | exc x μ' => rw [e] at q; exact fun cls d H' G' xt F xd => q σ H' G' cls d xt.gg F xd
  | ok ds μ' =>
    rw [e] at q
    dsimp only [Res.to] at q
    intro J H1 G1 x1 R1 wk
    refine ⟨fun i m σ H => m = ds.length - i ∧ i ≤ ds.length ∧ ∃ G env μ, FRel c σ H G env μ ∧ Sub G1 G ∧ sG c W G (loop t fb (ds.drop i) env μ) D, ⟨ds.length, by omega, Nat.zero_le _, G1, env, μ', R1, Sub.refl, by rw [List.drop_zero]; exact q.shift x1.gg⟩, ?_⟩
    rintro i m σ2 H2 ⟨rfl, hi, G2, env2, μ2, R2, s2, q2⟩
    by_cases hlt : i < ds.length
    · refine .inr ⟨wk.go i H2 G2 hlt ⟨s2, R2.sub⟩, fun σ H => ∃ G env μ, FRel c σ H G env μ ∧ Sub G1 G ∧ sG c W G (loop t fb (ds.drop (i + 1)) env μ) D, fun σ' H' h => ⟨ds.length - (i + 1), by omega, rfl, hlt, h⟩, fun x H3 y => ?_⟩
      obtain ⟨G3, hh, gg, sub, new, d, ed, dd⟩ := wk.yld i H2 G2 x H3 hlt ⟨s2, R2.sub⟩ R2.sub y
      obtain ⟨R3, x3⟩ := R2.grow hh gg sub new
      rw [drop_at ed] at q2
      simp only [loop] at q2
      cases eb : t.bind d env2 with
      | none => rw [eb] at q2; exact q2.elim
      | some env3 =>
        rw [eb] at q2
        dsimp only at q2
        refine ⟨G3, env2, μ2, d, env3, R3, dd, eb, fun σ4 R4 _ => ⟨G3, env3, μ2, R4, ?_⟩⟩
        have q3 := q2.shift gg
        cases er : fb env3 μ2 with
        | nxt env' μ'' => rw [er] at q3; exact fun σ' H' G' s' F' => ⟨G', env', μ'', F', (s2.trans gg).trans s', q3.shift s'⟩
        | cnt env' μ'' => rw [er] at q3; exact fun σ' H' G' s' F' => ⟨G', env', μ'', F', (s2.trans gg).trans s', q3.shift s'⟩
        | brk env' μ'' => rw [er] at q3; exact q3
        | ret v μ'' => rw [er] at q3; exact q3
        | exc x env' μ'' => rw [er] at q3; exact q3
        | bad => rw [er] at q3; exact q3.elim
    · have ei : i = ds.length := by omega
      subst ei
      rw [List.drop_length] at q2
      exact .inl ⟨wk.stop H2 G2 ⟨s2, R2.sub⟩, q2 σ2 H2 G2 Sub.refl R2⟩
def fSeqI (f : FE) : FI := fun env μ => (f env μ).bind fun x μ => match x with
  | .val (.tup ds) => .ok ds μ
  | _ => .bad
def fLstI (f : FE) : FI := fun env μ => (f env μ).bind fun x μ => match x with
  | .val (.lst ds) => .ok ds μ
  | .val (.frz ds) => .ok ds μ
  | _ => .bad
theorem walkD_list {G1 : Hp} {a : Addr} {vs : List V} {ds : List D} (h : SqL c.K G1 a vs) (d : Dats c.K G1 c.L vs ds) : WalkD c (fun H G => Sub G1 G ∧ Sub G H) (Itl c.K a) ds where
  go := fun i H G hi ⟨s, s2⟩ => by
    obtain ⟨v, h1, _⟩ := d.get (i := i) (d := ds[i]) (List.getElem?_eq_getElem hi)
    exact ⟨vs, v, s2.sqL (s.sqL h), h1⟩
  stop := fun H G ⟨s, s2⟩ => ⟨vs, s2.sqL (s.sqL h), by rw [d.length]; exact Nat.le_refl _⟩
  yld := fun i H G x H' hi ⟨s, s2⟩ s3 ⟨e, y⟩ => by
    subst e
    obtain ⟨v, h1, h2⟩ := d.get (i := i) (d := ds[i]) (List.getElem?_eq_getElem hi)
    have hx := y vs (s2.sqL (s.sqL h))
    rw [h1] at hx
    cases hx
    exact ⟨G, Sub.refl, Sub.refl, s3, fun _ _ z => .inl z, ds[i], List.getElem?_eq_getElem hi, h2.up s⟩
theorem walkD_tup {G1 : Hp} {a : Addr} {vs : List V} {ds : List D} (h : SqTd c.K G1 a vs) (d : Dats c.K G1 c.L vs ds) : WalkD c (fun H G => Sub G1 G ∧ Sub G H) (Itt c.K a) ds where
  go := fun i H G hi ⟨s, s2⟩ => by
    obtain ⟨v, h1, _⟩ := d.get (i := i) (d := ds[i]) (List.getElem?_eq_getElem hi)
    exact ⟨vs, v, s2.sqT (s.sqTd h), h1⟩
  stop := fun H G ⟨s, s2⟩ => ⟨vs, s2.sqT (s.sqTd h), by rw [d.length]; exact Nat.le_refl _⟩
  yld := fun i H G x H' hi ⟨s, s2⟩ s3 ⟨e, y⟩ => by
    subst e
    obtain ⟨v, h1, h2⟩ := d.get (i := i) (d := ds[i]) (List.getElem?_eq_getElem hi)
    have hx := y vs (s2.sqT (s.sqTd h))
    rw [h1] at hx
    cases hx
    exact ⟨G, Sub.refl, Sub.refl, s3, fun _ _ z => .inl z, ds[i], List.getElem?_eq_getElem hi, h2.up s⟩
def rangeD (lo : Int) : Nat → List D
  | 0 => []
  | n + 1 => .int lo :: rangeD (lo + 1) n
theorem rangeD_len : ∀ (n : Nat) (lo : Int), (rangeD lo n).length = n
  | 0, _ => rfl
  | n + 1, lo => congrArg (· + 1) (rangeD_len n (lo + 1))
theorem rangeD_get : ∀ (n : Nat) (lo : Int) (i : Nat), i < n → (rangeD lo n)[i]? = some (.int (lo + i))
  | n + 1, lo, 0, _ => by simp [rangeD]
  | n + 1, lo, i + 1, h => by
    have := rangeD_get n (lo + 1) i (by omega)
    show (rangeD (lo + 1) n)[i]? = _
    rw [this]
    congr 2
    omega
theorem walkD_range {Gd : Hp → Hp → Prop} {lo : Int} {n : Nat} : WalkD c Gd (Itr lo n) (rangeD lo n) where
  go := fun i H G hi _ => by rw [rangeD_len] at hi; exact hi
  stop := fun H G _ => by rw [rangeD_len]; exact Nat.le_refl n
  yld := fun i H G x H' hi _ s3 ⟨e, y⟩ => by
    subst e
    subst y
    rw [rangeD_len] at hi
    exact ⟨G, Sub.refl, Sub.refl, s3, fun _ _ z => .inl z, _, rangeD_get n lo i hi, .int _⟩
theorem di_tup {tg e : Expr} {f : FE} (he : DE X c W e f) (hk : X.K = c.K := by rfl) : DI X c W tg e (fSeqI f) := PI.of (pi_tup he) fun σ H Q q => by
  obtain ⟨G, env, μ, R, q⟩ := q
  refine ⟨G, env, μ, R, (iG.bind q).imp (fun _ _ _ _ h => h) ?_⟩
  rintro v H1 ⟨G1, μ1, x, x1, R1, d1, q1⟩
  split at q1
  · cases d1 with
    | tup s t =>
      rename_i a vs
      exact ⟨a, rfl, ⟨vs, hk ▸ R1.sub.sqT s⟩, q1.now R1 (hk ▸ walkD_tup s t)⟩
  · exact q1.elim
theorem di_lst {tg e : Expr} {f : FE} (he : DE X c W e f) (hk : X.K = c.K := by rfl) : DI X c W tg e (fLstI f) := PI.of (pi_list he) fun σ H Q q => by
  obtain ⟨G, env, μ, R, q⟩ := q
  refine ⟨G, env, μ, R, (iG.bind q).imp (fun _ _ _ _ h => h) ?_⟩
  rintro v H1 ⟨G1, μ1, x, x1, R1, d1, q1⟩
  split at q1
  · cases d1 with
    | lst s t =>
      rename_i a vs
      exact ⟨a, rfl, ⟨vs, SqL.of (R1.sub _ _ s)⟩, q1.now R1 (hk ▸ walkD_list (SqL.of s) t)⟩
  · cases d1 with
    | frz s t =>
      rename_i a vs
      exact ⟨a, rfl, ⟨vs, hk ▸ R1.sub.sqL s⟩, q1.now R1 (hk ▸ walkD_list s t)⟩
  · exact q1.elim
def rngOk (j : Int) : Bool := decide (j.natAbs ≤ 1073741824)
theorem rng_fit {j : Int} (h : rngOk j = true) : -(2 ^ 62) ≤ j ∧ j < 2 ^ 62 := by
  have q : j.natAbs ≤ 1073741824 := of_decide_eq_true h
  omega
def fRng1 (f : FE) : FI := fun env μ => (f env μ).bind fun x μ => match x with
  | .val (.int j) => if rngOk j then .ok (rangeD 0 j.toNat) μ else .bad
  | _ => .bad
theorem di_rng1 {tg a : Expr} {f : FE} {p pos : Pos} (hm : X.mg "range" = none) (ha : DE X c W a f) (hgl : Gl X "range" := by rfl) (hs : starEach [a] X.env = [(false, eval a X.env)] := by rfl) (hs' : starEach [a] X.env = (false, eval a X.env) :: starEach [] X.env := by rfl) : DI X c W tg (.Call (.Name "range" p) [a] [] pos) (fRng1 f) := PI.of (pi_range1 hgl hm (pa_cons ha pa_nil hs') hs) fun σ H Q q => by
  obtain ⟨G, env, μ, R, q⟩ := q
  refine ⟨G, env, μ, R, (iG.bind q).imp (fun _ _ _ _ h => h) ?_⟩
  rintro v H1 ⟨G1, μ1, x, x1, R1, d1, q1⟩
  split at q1
  · rename_i j
    cases d1
    split at q1
    · rename_i hr
      have hr := rng_fit hr
      exact ⟨j, rfl, hr.1, hr.2, q1.now R1 walkD_range⟩
    · exact q1.elim
  · exact q1.elim
end
end Q
set_option Elab.async false
set_option linter.all false
set_option maxRecDepth 100000
set_option maxHeartbeats 4000000
namespace Q
open PySem PySem.Spec PyProof.Rows L2
def wipeE (env : En) : List Nat → En
  | [] => env
  | v :: vs => (wipeE env vs).set v .un
def Res.nx {α : Type} : Res α → Res α
  | .exc _ _ => .bad
  | r => r
def W0 : WX := fun _ _ _ _ => False
def lcLoop (t : Tg) (ft : FT) (fe : FE) (env : En) : List D → Mu → List D → Res (List D)
  | [], μ, acc => .ok acc μ
  | d :: ds, μ, acc => match t.bind d env with
    | none => .bad
    | some env' => (ft env' μ).nx.bind fun b μ => if b then (fe env' μ).nx.bind fun x μ => match x with
        | .val e => lcLoop t ft fe env ds μ (acc ++ [e])
        | _ => .bad
      else lcLoop t ft fe env ds μ acc
def fLc (fi : FI) (t : Tg) (ft : FT) (fe : FE) (vs : List Nat) : FE := fun env μ => (fi env μ).bind fun ds μ => if ds.length ≤ LIM then (lcLoop t ft fe (wipeE env vs) ds μ []).bind fun l μ => .ok (.val (.lst l)) μ else .bad
def fYes : FT := fun _ μ => .ok true μ
section
variable {X : Cx} {c : Fx} {W : WX}
theorem FRel.unset {σ : Sl} {H G : Hp} {env : En} {μ : Mu} (R : FRel c σ H G env μ) (v : Nat) : FRel c (σ.set v none) H G (env.set v .un) μ := by
  have sl : ∀ (i : Nat) (e : EV), (env.set v .un)[i]? = some e → e ≠ .un → env[i]? = some e ∧ (σ.set v none)[i]? = σ[i]? := fun i e h ne => by
    rcases set_get h with ⟨_, q, _⟩ | ⟨n, q⟩
    · exact absurd q ne
    · exact ⟨q, List.getElem?_set_ne (Ne.symm n)⟩
  obtain ⟨dA, dB⟩ := R.dics (σ' := σ.set v none) (H' := H) (G' := G) (env' := env.set v .un) (fun i ks ds e => sl i _ e (fun z => nomatch z)) (fun _ _ q _ => q) (fun _ _ _ q => q) Sub.refl
  refine ⟨R.toRRel, fun i d e => ?_, fun i ds e => ?_, fun i j ds es a h1 h2 h3 h4 => ?_, by rw [List.length_set, List.length_set]; exact R.el, dA, dB⟩
  · obtain ⟨q1, q2⟩ := sl i _ e (fun z => nomatch z)
    rw [q2]; exact R.val i d q1
  · obtain ⟨q1, q2⟩ := sl i _ e (fun z => nomatch z)
    rw [q2]; exact R.own i ds q1
  · obtain ⟨q1, q2⟩ := sl i _ h1 (fun z => nomatch z)
    obtain ⟨q3, q4⟩ := sl j _ h2 (fun z => nomatch z)
    rw [q2] at h3
    rw [q4] at h4
    exact R.inj i j ds es a q1 q3 h3 h4
theorem FRel.wiped {σ : Sl} {H G : Hp} {env : En} {μ : Mu} (R : FRel c σ H G env μ) : ∀ vs : List Nat, FRel c (wipe σ vs) H G (wipeE env vs) μ
  | [] => R
  | v :: vs => (FRel.wiped R vs).unset v
theorem FRel.back {σ : Sl} {H G H' G' : Hp} {env : En} {μ μ' : Mu} (R : FRel c σ H G env μ) (x : Ext c.L H G H' G') (r : RRel c H' G' μ') : FRel c σ H' G' env μ' := by
  obtain ⟨dA, dB⟩ := R.dics (σ' := σ) (H' := H') (G' := G') (env' := env) (fun i ks ds e => ⟨e, rfl⟩) (fun b kvs q n => x.keep b _ q n) (fun b kvs q1 q2 => by
    cases q : G' b with
    | none => rfl
    | some o =>
      rcases x.newG b o q with z | ⟨z, _⟩
      · rw [q2] at z; cases z
      · rw [q1] at z; cases z) x.gg
  refine ⟨r, fun i d e => ?_, fun i ds e => ?_, R.inj, R.el, dA, dB⟩
  · obtain ⟨v, h1, h2⟩ := R.val i d e
    exact ⟨v, h1, h2.up x.gg⟩
  · obtain ⟨a, vs, h1, h2, h3, h4, h5, h6⟩ := R.own i ds e
    refine ⟨a, vs, h1, x.keep _ _ h2 h4, ?_, h4, h5, h6.up x.gg⟩
    cases q : G' a with
    | none => rfl
    | some o =>
      rcases x.newG a o q with z | ⟨z, _⟩
      · rw [h3] at z; cases z
      · rw [h2] at z; cases z
theorem RRel.updD {H G : Hp} {μ : Mu} (R : RRel c H G μ) {d : Addr} {o : HO} (h1 : G d = none) (h2 : d ∉ c.L) (h3 : c.H0 d = none) : RRel c (upd H d o) G μ := by
  refine ⟨fun b u e => ?_, R.nd, R.len, fun n a ds e1 e2 => ?_, fun b u e n => ?_, R.gg, R.newG, R.nt⟩
  · rw [upd_ne fun z => by rw [z, h1] at e; cases e]
    exact R.sub b u e
  · obtain ⟨g, vs, q, r⟩ := R.loc n a ds e1 e2
    have ne : a ≠ d := fun z => h2 (by rw [← z]; exact List.mem_of_getElem? e1)
    exact ⟨g, vs, by rw [upd_ne ne]; exact q, r⟩
  · rw [upd_ne fun z => by rw [z, h3] at e; cases e]
    exact R.keep b u e n
theorem wipe_at {σ : Sl} {vs : List Nat} {j : Nat} (h : j ∈ vs) (hl : j < σ.length) : (wipe σ vs)[j]? = some none := by
  induction vs with
  | nil => cases h
  | cons v vs ih =>
    show ((wipe σ vs).set v none)[j]? = some none
    by_cases e : j = v
    · rw [e, List.getElem?_set_self (by rw [wipe_length]; rw [← e]; exact hl)]
    · rw [List.getElem?_set_ne (Ne.symm e)]
      rcases List.mem_cons.mp h with z | z
      · exact absurd z e
      · exact ih z
theorem wipe_off {σ σ2 : Sl} {vs sl : List Nat} (o : Off sl (wipe σ vs) σ2) (hs : ∀ j ∈ sl, j ∈ vs) : wipe σ2 vs = wipe σ vs := by
  have hl : σ2.length = σ.length := by rw [o.1, wipe_length]
  apply List.ext_getElem?
  intro j
  by_cases h : j ∈ vs
  · by_cases hj : j < σ.length
    · rw [wipe_at h hj, wipe_at h (by rw [hl]; exact hj)]
    · rw [List.getElem?_eq_none (by rw [wipe_length]; omega), List.getElem?_eq_none (by rw [wipe_length]; omega)]
  · rw [wipe_out h, o.2 j (fun z => h (hs j z)), ← wipe_out h, wipe_out h]
def iGc (c : Fx) (W : WX) (vs : List Nat) (σ : Sl) (H G : Hp) (env : En) (r : Res (List D)) (R : It → Hp → Prop) : Prop := match r with
  | .ok ds μ' => ∀ J H' G' Gd, Ext c.L H G H' G' → FRel c σ H' G' env μ' → WalkD c Gd J ds → (∀ Hx Gx μx, FRel c (wipe σ vs) Hx Gx (wipeE env vs) μx → Ext c.L H' G' Hx Gx → Gd Hx Gx) → R J H'
  | .exc e μ' => ∀ cls d H' G', Ext c.L H G H' G' → FRel c σ H' G' env μ' → XDat c H' G' cls d e → W cls d σ H'
  | .bad => False
def tIc (c : Fx) (W : WX) (vs : List Nat) (f : FI) : TI := fun σ H R => ∃ G env μ, FRel c σ H G env μ ∧ iGc c W vs σ H G env (f env μ) R
abbrev DIc (X : Cx) (c : Fx) (W : WX) (vs : List Nat) (tg iter : Expr) (f : FI) : Prop := PI X tg iter (tIc c W vs f)
theorem di_c {vs : List Nat} {tg iter : Expr} {f : FI} (h : DI X c W tg iter f) : DIc X c W vs tg iter f := PI.of h fun σ H Q q => by
  obtain ⟨G, env, μ, R, q⟩ := q
  refine ⟨G, env, μ, R, ?_⟩
  revert q
  cases f env μ with
  | ok ds μ' => exact fun q J H' G' x F wk => q J H' G' _ x F wk fun Hx Gx μx Fx xx => ⟨xx.gg, Fx.sub⟩
  | exc e μ' => exact id
  | bad => exact id
def fOwnI (i : Nat) : FI := fun env μ => match env[i]? with
  | some (.own ds) => .ok ds μ
  | some (.val (.lst ds)) => .ok ds μ
  | _ => .bad
theorem RF.eq {H H' G' : Hp} {v : V} {d : RV} (h : RF c H H' G' v d) : True := trivial
theorem lc_run {fi : FI} {t : Tg} {ft : FT} {fe : FE} {vs : List Nat} (hsl : ∀ j ∈ t.slots, j ∈ vs) {σ : Sl} {H : Hp} {Q : VK} (q : tN c W (fLc fi t ft fe vs) σ H Q) : tLc (tIc c W vs fi) (tGt c t) (tT c W0 ft) (tE c W0 fe) vs σ H Q := by
  obtain ⟨G, env, μ, R, q⟩ := q
  refine ⟨G, env, μ, R, ?_⟩
  unfold fLc at q
  cases e : fi env μ with
  | bad => rw [e] at q; exact q
  | exc x μ' => rw [e] at q; exact q
  | ok ds μ1 =>
    rw [e] at q
    have q : tG c W σ H G env (RF c H) (if ds.length ≤ LIM then (lcLoop t ft fe (wipeE env vs) ds μ1 []).bind fun l μ => .ok (.val (.lst l)) μ else .bad) Q := q
    by_cases hds : ds.length ≤ LIM
    · rw [if_pos hds] at q
      intro J H1 G1 Gd x1 R1 wk hGd D hD
      have q := tG.shift x1 q
      have fD := R1.toRRel.fresh hD
      have Rw : FRel c (wipe σ vs) H1 G1 (wipeE env vs) μ1 := R1.wiped vs
      obtain ⟨R2, x2⟩ := Rw.newH (o := .lst []) hD
      refine ⟨fun i m H2 => m = ds.length - i ∧ i ≤ ds.length ∧ ∃ G2 μ2 acc accV, FRel c (wipe σ vs) H2 G2 (wipeE env vs) μ2 ∧ Ext c.L H1 G1 H2 G2 ∧ H2 D = some (.lst accV) ∧ G2 D = none ∧ Dats c.K G2 c.L accV acc ∧ acc.length ≤ i ∧
        tG c W σ H1 G1 env (RF c H) ((lcLoop t ft fe (wipeE env vs) (ds.drop i) μ2 acc).bind fun l μ => .ok (.val (.lst l)) μ) Q,
        ⟨ds.length, by omega, Nat.zero_le _, G1, μ1, [], [], R2, x2, upd_same, fD.2.2, .nil, Nat.le_refl _, by rw [List.drop_zero]; exact q⟩, ?_⟩
      rintro i m H2 ⟨rfl, hi, G2, μ2, acc, accV, F2, y2, hD2, gD2, dacc, hacc, q2⟩
      have gd := hGd H2 G2 μ2 F2 y2
      by_cases hlt : i < ds.length
      · refine .inr ⟨wk.go i H2 G2 hlt gd, fun H2 => ∃ G2 μ2 acc accV, FRel c (wipe σ vs) H2 G2 (wipeE env vs) μ2 ∧ Ext c.L H1 G1 H2 G2 ∧ H2 D = some (.lst accV) ∧ G2 D = none ∧ Dats c.K G2 c.L accV acc ∧ acc.length ≤ i + 1 ∧
          tG c W σ H1 G1 env (RF c H) ((lcLoop t ft fe (wipeE env vs) (ds.drop (i + 1)) μ2 acc).bind fun l μ => .ok (.val (.lst l)) μ) Q, fun H' h => ⟨ds.length - (i + 1), by omega, rfl, hlt, h⟩, fun x H3 y => ?_⟩
        obtain ⟨G3, hh, gg, sub, new, d, ed, dd⟩ := wk.yld i H2 G2 x H3 hlt gd F2.sub y
        obtain ⟨F3, x3⟩ := F2.grow hh gg sub new
        rw [drop_at ed] at q2
        simp only [lcLoop] at q2
        cases eb : t.bind d (wipeE env vs) with
        | none => rw [eb] at q2; exact q2.elim
        | some env' =>
          rw [eb] at q2
          dsimp only at q2
          refine ⟨G3, wipeE env vs, μ2, d, env', F3, dd, eb, fun σ4 F4 off => ⟨wipe_off off hsl, ?_⟩⟩
          refine ⟨G3, env', μ2, F4, ?_⟩
          have hD3 : H3 D = some (.lst accV) := hh _ _ hD2
          cases et : ft env' μ2 with
          | bad => rw [et] at q2; exact q2.elim
          | exc z m => rw [et] at q2; exact q2.elim
          | ok b μ3 =>
            rw [et] at q2
            dsimp only [Res.nx, Res.bind] at q2
            intro b' H5 G5 x5 F5 eb'
            have eb'' : b' = b := eb'
            subst eb''
            have hD5 : H5 D = some (.lst accV) := x5.keep _ _ hD3 fD.2.1
            have x25 : Ext c.L H2 G2 H5 G5 := x3.trans x5
            cases b' with
            | false =>
              refine (if_neg Bool.false_ne_true).mpr ?_
              rw [if_neg Bool.false_ne_true] at q2
              have y5 := y2.trans x25
              refine ⟨G5, μ3, acc, accV, Rw.back y5 F5.toRRel, y5, hD5, ?_, dacc.up x25.gg, Nat.le_succ_of_le hacc, q2⟩
              cases w : G5 D with
              | none => rfl
              | some o =>
                rcases x25.newG D o w with z | ⟨z, _⟩
                · rw [gD2] at z; cases z
                · rw [hD2] at z; cases z
            | true =>
              refine (if_pos rfl).mpr ?_
              rw [if_pos rfl] at q2
              refine ⟨G5, env', μ3, F5, ?_⟩
              cases ee : fe env' μ3 with
              | bad => rw [ee] at q2; exact q2.elim
              | exc z m => rw [ee] at q2; exact q2.elim
              | ok rv μ4 =>
                rw [ee] at q2
                dsimp only [Res.nx, Res.bind] at q2
                intro yv H6 G6 x6 F6 dy
                cases rv with
                | own j => exact q2.elim
                | val e =>
                  dsimp only at q2
                  have x26 : Ext c.L H2 G2 H6 G6 := x25.trans x6
                  have hD6 : H6 D = some (.lst accV) := x6.keep _ _ hD5 fD.2.1
                  have gD6 : G6 D = none := by
                    cases w : G6 D with
                    | none => rfl
                    | some o =>
                      rcases x26.newG D o w with z | ⟨z, _⟩
                      · rw [gD2] at z; cases z
                      · rw [hD2] at z; cases z
                  have hlen : accV.length < sizeLine := by rw [dacc.length, ← LIM_eq]; omega
                  refine ⟨accV, hD6, hlen, G6, μ4, acc ++ [e], accV ++ [yv], ?_, ?_, upd_same, gD6, (dacc.up x26.gg).append (.cons dy .nil), by rw [List.length_append, List.length_singleton]; omega, q2⟩
                  · have y6 : Ext c.L H1 G1 (upd H6 D (.lst (accV ++ [yv]))) G6 := ⟨fun b o h n => by
                      rw [upd_ne fun z => by rw [z, hD] at h; cases h]
                      exact (y2.trans x26).keep b o h n, (y2.trans x26).gg, (y2.trans x26).newG⟩
                    exact Rw.back y6 (F6.toRRel.updD gD6 fD.2.1 fD.1)
                  · exact ⟨fun b o h n => by
                      rw [upd_ne fun z => by rw [z, hD] at h; cases h]
                      exact (y2.trans x26).keep b o h n, (y2.trans x26).gg, (y2.trans x26).newG⟩
      · have ei : i = ds.length := by omega
        subst ei
        rw [List.drop_length] at q2
        refine .inl ⟨wk.stop H2 G2 gd, ?_⟩
        refine q2.now y2 (R1.back y2 F2.toRRel) ⟨D, accV, acc, rfl, rfl, hD2, gD2, fD.2.1, ?_, dacc⟩
        cases w : H D with
        | none => rfl
        | some u => rw [x1.keep D u w fD.2.1] at hD; cases hD
    · rw [if_neg hds] at q; exact q.elim
theorem dn_lc {elt tg iter : Expr} {ifs : List Expr} {scope : Scope} {own : List (Str × Nat)} {pos : Pos} {fi : FI} {t : Tg} {ft : FT} {fe : FE} {vs : List Nat} (hc : X.calm = true) (hN : X.N.Nodup) (hi : DIc X c W vs tg iter fi) (ok : BlkOk X.N X.env.scope scope own)
    (hg : ∀ (s : Shared) (H : Hp) (C : Addr) (cl : List (Str × Addr)) (fp : List Addr), DG (X.blk s H scope (compEnvC scope cl C X.env) fp) c tg t) (ht : ∀ (s : Shared) (H : Hp) (C : Addr) (cl : List (Str × Addr)) (fp : List Addr), PTs (X.blk s H scope (compEnvC scope cl C X.env) fp) ifs (tT c W0 ft))
    (he : ∀ (s : Shared) (H : Hp) (C : Addr) (cl : List (Str × Addr)) (fp : List Addr), DE (X.blk s H scope (compEnvC scope cl C X.env) fp) c W0 elt fe) (hvs : own.map (·.2) = vs := by rfl) (hsl : ∀ j ∈ t.slots, j ∈ vs := by decide) (hs : ∀ x, foldedSetIterable iter X.env x = pure x := by intro _; rfl) :
    DN X c W (.ListComp elt [⟨tg, iter, ifs, 0⟩] scope pos) (fLc fi t ft fe vs) := by
  subst hvs
  exact PE.of (pe_lc hc hN hi ok hg ht he hs) fun σ H Q q => lc_run hsl q
theorem dts_nil : PTs X [] (tT c W fYes) := ⟨fun pins s σ H Q I q => by
  obtain ⟨G, env, μ, R, q⟩ := q
  exact pts_nil.run pins s σ H Q I (q.now Ext.refl R rfl)⟩
end
end Q
set_option Elab.async false
set_option linter.all false
set_option maxRecDepth 100000
set_option maxHeartbeats 4000000
namespace Q
open PySem PySem.Spec PyProof.Rows L2
abbrev RunF := List D → Mu → Res EV
def rG (c : Fx) (r : Res EV) (Q : VK) (E : XK) : Prop := match r with
  | .ok d μ => ∀ v H G, RRel c H G μ → RM c c.H0 H G v d → Q v H
  | .exc e μ => ∀ cls dd H G, RRel c H G μ → XDat c H G cls dd e → E cls dd H
  | .bad => False
abbrev _root_.L2.Cx.KW (X : Cx) : KW := ⟨X.K, X.w⟩
def spD (K : KW) (C : Nat → Addr) (n : Nat) (run : RunF) : Sp := fun vs H Q E => vs.length = n ∧ ∃ G L ds μ, RRel ⟨K, L, H, G, C⟩ H G μ ∧ Dats K G L vs ds ∧ rG ⟨K, L, H, G, C⟩ (run ds μ) Q E
def envOf (n : Nat) (ds : List D) : En := ds.map .val ++ List.replicate (n - ds.length) .un
def runOf (n : Nat) (fb : FS) : RunF := fun ds μ => match fb (envOf n ds) μ with
  | .ret d μ => .ok d μ
  | .nxt _ μ => .ok (.val .non) μ
  | .exc e _ μ => .exc e μ
  | _ => .bad
section
variable {X : Cx} {c : Fx} {W : WX}
theorem env_val {n : Nat} {ds : List D} {i : Nat} {e : EV} (h : (envOf n ds)[i]? = some e) : (∃ d, e = .val d ∧ ds[i]? = some d) ∨ e = .un := by
  unfold envOf at h
  by_cases hi : i < ds.length
  · rw [List.getElem?_append_left (by rw [List.length_map]; exact hi), List.getElem?_map, List.getElem?_eq_getElem hi] at h
    cases h
    exact .inl ⟨_, rfl, List.getElem?_eq_getElem hi⟩
  · rw [List.getElem?_append_right (by rw [List.length_map]; omega)] at h
    exact .inr (List.eq_of_mem_replicate (List.mem_of_getElem? h))
theorem start_rel {N : List Str} {H G : Hp} {μ : Mu} {vs : List V} {ds : List D} (R : RRel c H G μ) (d : Dats c.K G c.L vs ds) : FRel c (start N vs) H G (envOf N.length ds) μ := by
  refine ⟨R, fun i e h => ?_, fun i es h => ?_, fun i j es fs a h1 h2 h3 h4 => ?_, ?_, fun i ks es h => ?_, fun i j ks js es fs a h1 h2 h3 h4 => ?_⟩
  rotate_right 2
  · rcases env_val h with ⟨d', e1, e2⟩ | e1 <;> cases e1
  · rcases env_val h1 with ⟨d', e1, e2⟩ | e1 <;> cases e1
  · rcases env_val h with ⟨d', e1, e2⟩ | e1
    · cases e1
      obtain ⟨v, q1, q2⟩ := d.get e2
      refine ⟨v, ?_, q2⟩
      have hi := (List.getElem?_eq_some_iff.mp q1).1
      show (vs.map some ++ _)[i]? = _
      rw [List.getElem?_append_left (by rw [List.length_map]; exact hi), List.getElem?_map, q1]
      rfl
    · cases e1
  · rcases env_val h with ⟨d', e1, e2⟩ | e1 <;> cases e1
  · rcases env_val h1 with ⟨d', e1, e2⟩ | e1 <;> cases e1
  · show (ds.map EV.val ++ _).length = (vs.map some ++ _).length
    rw [List.length_append, List.length_append, List.length_map, List.length_map, List.length_replicate, List.length_replicate, d.length]
theorem fn_ok {P : Program} {w : World} {K : PySem.W.Frag} {mg : Str → Option Value} {base : Heap} {C : Nat → Addr} {x qual : Str} {st : Stmt} {f : Addr} {fd : FuncData} {N ps : List Str} {k : Nat} {fb : FS} (F : Fun K x qual st f fd) (S : FnScope N ps (defScope st))
    (hb : ∀ (cdv : Value) (A : Around) (outer : List Env) (s : Shared) (H : Hp) (E : XK) (c : Fx), c.K = ⟨K, w⟩ → c.C = C → Room k (A.deeper (envOfC qual (defScope st) s.heap.objs.size f cdv)) →
      DSs (cxOf (L2.CX P w) P w K mg base N qual (defScope st) f cdv A outer s H E) c (fun cls d _ H => E cls d H) (defBody st) fb) :
    FnOk P w K mg base (L2.CX P w) (k + 1) f fd ps (spD ⟨K, w⟩ C ps.length (runOf N.length fb)) := by
  refine F.okX S (fun vs H Q E h => h.1) fun cdv A outer s H vs Q E hr h => ?_
  obtain ⟨hn, G, L, ds, μ, R, d, q⟩ := h
  refine ⟨_, hb cdv A outer s H E ⟨⟨K, w⟩, L, H, G, C⟩ rfl rfl hr, G, envOf N.length ds, μ, start_rel R d, ?_⟩
  unfold runOf at q
  cases e : fb (envOf N.length ds) μ with
  | nxt env' μ' => rw [e] at q; exact fun σ H' G' _ F' => q .non H' G' F'.toRRel (show RM ⟨⟨K, w⟩, L, H, G, C⟩ H H' G' .non (.val .non) from Dat.non)
  | ret d' μ' => rw [e] at q; exact q
  | brk env' μ' => rw [e] at q; exact q.elim
  | cnt env' μ' => rw [e] at q; exact q.elim
  | exc z env' μ' => rw [e] at q; exact fun σ H' G' cls dd _ F' xd => q cls dd H' G' F'.toRRel xd
  | bad => rw [e] at q; exact q.elim
theorem RRel.entry {H G : Hp} {μ : Mu} (R : RRel c H G μ) : RRel ⟨c.K, c.L, H, G, c.C⟩ H G μ := ⟨R.sub, R.nd, R.len, R.loc, fun _ _ h _ => h, Sub.refl, fun _ _ h => .inl h, R.nt⟩
theorem RRel.lift {H G H' G' : Hp} {μ μ' : Mu} (R : RRel c H G μ) (r : RRel ⟨c.K, c.L, H, G, c.C⟩ H' G' μ') : RRel c H' G' μ' ∧ Ext c.L H G H' G' := by
  have x : Ext c.L H G H' G' := ⟨r.keep, r.gg, r.newG⟩
  refine ⟨⟨r.sub, r.nd, r.len, r.loc, fun b o h n => r.keep b o (R.keep b o h n) n, R.gg.trans r.gg, fun b o h => ?_, r.nt⟩, x⟩
  rcases x.newG b o h with z | ⟨z, n⟩
  · exact R.newG b o z
  · refine .inr ⟨?_, n⟩
    cases w : c.H0 b with
    | none => rfl
    | some u => rw [R.keep b u w n] at z; cases z
def EV.rv : EV → Option RV
  | .val d => some (.val d)
  | .own ds => some (.val (.lst ds))
  | .dic ks ds => some (.val (.dct ks ds))
  | .un => none
def fFn (n : Nat) (run : RunF) (fa : FA) : FE := fun env μ => (fa env μ).bind fun ds μ => if ds.length = n then (run ds μ).bind fun r μ => match r with
    | .val d => .ok (.val d) μ
    | .own ds => .ok (.val (.lst ds)) μ
    | .dic ks ds => .ok (.val (.dct ks ds)) μ
    | .un => .bad
  else .bad
def fFnN (n : Nat) (run : RunF) (fa : FA) : FE := fun env μ => (fa env μ).bind fun ds μ => if ds.length = n then (run ds μ).bind fun r μ => match r with
    | .own ds => .ok (.val (.lst ds)) μ
    | _ => .bad
  else .bad
theorem call_run {σ : Sl} {H G : Hp} {env : En} {μ : Mu} {vs : List V} {ds : List D} {run : RunF} {Q : VK} (R : FRel c σ H G env μ) (d : Dats c.K G c.L vs ds)
    (q : tG c W σ H G env (RX c σ) ((run ds μ).bind fun r μ => match r with | .val d => .ok (.val d) μ | .own ds => .ok (.val (.lst ds)) μ | .dic ks ds => .ok (.val (.dct ks ds)) μ | .un => .bad) Q) :
    rG ⟨c.K, c.L, H, G, c.C⟩ (run ds μ) Q (WE W σ) := by
  cases e : run ds μ with
  | bad => rw [e] at q; exact q.elim
  | exc z μ' =>
    rw [e] at q
    intro cls dd H' G' r xd
    obtain ⟨r', x⟩ := R.toRRel.lift r
    exact q cls dd H' G' x (R.back x r') xd
  | ok r μ' =>
    rw [e] at q
    intro v H' G' rr m
    obtain ⟨r', x⟩ := R.toRRel.lift rr
    have F := R.back x r'
    cases r with
    | un => exact q.elim
    | val d => exact q.now x F m
    | own es =>
      obtain ⟨a, us, rfl, z1, z2, z3, z4, z5⟩ := m
      have g : Sub G' (upd G' a (.lst us)) := sub_upd z2
      refine q.now (v := .ref a) ⟨x.keep, x.gg.trans g, fun b o h => ?_⟩ (R.freezeF F z1 z2 z3 z4) (show RX c σ H' (upd G' a (.lst us)) (V.ref a) (RV.val (D.lst es)) from Dat.lst upd_same (z5.up g))
      by_cases hb : b = a
      · subst hb; exact .inr ⟨z4, z3⟩
      · rw [upd_ne hb] at h; exact x.newG b o h
    | dic ks es =>
      obtain ⟨a, bs, us, rfl, z1, zl, zk, z2, z3, z4, z5⟩ := m
      have g : Sub G' (upd G' a (DctO c.K.w a (nksD ks) bs us)) := sub_upd z2
      refine q.now (v := .ref a) ⟨x.keep, x.gg.trans g, fun b o h => ?_⟩ (R.freezeFO F True.intro z1 z2 z3 z4) (show RX c σ H' (upd G' a (DctO c.K.w a (nksD ks) bs us)) (V.ref a) (RV.val (D.dct ks es)) from Dat.dct upd_same rfl zl (zk.up g) (z5.up g))
      by_cases hb : b = a
      · subst hb; exact .inr ⟨z4, z3⟩
      · rw [upd_ne hb] at h; exact x.newG b o h
theorem call_runN {σ : Sl} {H G : Hp} {env : En} {μ : Mu} {vs : List V} {ds : List D} {run : RunF} {Q : VK} (R : FRel c σ H G env μ) (d : Dats c.K G c.L vs ds)
    (q : tG c W σ H G env (RF c H) ((run ds μ).bind fun r μ => match r with | .own ds => .ok (.val (.lst ds)) μ | _ => .bad) Q) :
    rG ⟨c.K, c.L, H, G, c.C⟩ (run ds μ) Q (WE W σ) := by
  cases e : run ds μ with
  | bad => rw [e] at q; exact q.elim
  | exc z μ' =>
    rw [e] at q
    intro cls dd H' G' r xd
    obtain ⟨r', x⟩ := R.toRRel.lift r
    exact q cls dd H' G' x (R.back x r') xd
  | ok r μ' =>
    rw [e] at q
    intro v H' G' rr m
    obtain ⟨r', x⟩ := R.toRRel.lift rr
    have F := R.back x r'
    cases r with
    | un => exact q.elim
    | val d => exact q.elim
    | dic ks es => exact q.elim
    | own es =>
      obtain ⟨a, us, rfl, z1, z2, z3, z4, z5⟩ := m
      exact q.now x F ⟨a, us, es, rfl, rfl, z1, z2, z3, z4, z5⟩
theorem de_call {k n : Nat} {f : Addr} {fd : FuncData} {ps : List Str} {run : RunF} {x : Str} {p pos : Pos} {e : Expr} {es : List Expr} {fa : FA} (G : FnOk X.prog X.w X.K X.mg X.base (L2.CX X.prog X.w) k f fd ps (spD X.KW c.C n run)) (hr : Room k X.A) (hm : X.mg x = some (.ref f)) (hk : PySem.W.keepIn X.K (.ref f) = true) (hb : Binds X.K fd ps [])
    (tk : Takes X W) (ha : DA X c W (e :: es) fa) (hg : Gl X x := by rfl) (hK : X.KW = c.K := by rfl) (hdb : (x == ("__debug__" : Str)) = false := by decide) (he : starEach (e :: es) X.env = (false, eval e X.env) :: starEach es X.env := by rfl) (hpl : (backTo pos (starEach es X.env)).any (·.1) = false := by rfl) :
    DE X c W (.Call (.Name x p) (e :: es) [] pos) (fFn n run fa) := PE.of (pe_callS G hr hg hm hk hb (fun σ => passAt tk σ) ha hdb he hpl) fun σ H Q q => by
  obtain ⟨G, env, μ, R, q⟩ := q
  refine ⟨G, env, μ, R, (tG.bind q).imp (fun _ _ _ _ h => h) ?_⟩
  rintro vs H1 ⟨G1, μ1, ds, x1, R1, d1, q1⟩
  by_cases hl : ds.length = n
  · rw [if_pos hl] at q1
    refine ⟨(Dats.length d1).trans hl, ?_⟩
    rw [hK]
    exact ⟨G1, c.L, ds, μ1, R1.toRRel.entry, d1, call_run R1 d1 q1⟩
  · rw [if_neg hl] at q1; exact q1.elim
theorem dn_call {k n : Nat} {f : Addr} {fd : FuncData} {ps : List Str} {run : RunF} {x : Str} {p pos : Pos} {e : Expr} {es : List Expr} {fa : FA} (G : FnOk X.prog X.w X.K X.mg X.base (L2.CX X.prog X.w) k f fd ps (spD X.KW c.C n run)) (hr : Room k X.A) (hm : X.mg x = some (.ref f)) (hk : PySem.W.keepIn X.K (.ref f) = true) (hb : Binds X.K fd ps [])
    (tk : Takes X W) (ha : DA X c W (e :: es) fa) (hg : Gl X x := by rfl) (hK : X.KW = c.K := by rfl) (hdb : (x == ("__debug__" : Str)) = false := by decide) (he : starEach (e :: es) X.env = (false, eval e X.env) :: starEach es X.env := by rfl) (hpl : (backTo pos (starEach es X.env)).any (·.1) = false := by rfl) :
    DN X c W (.Call (.Name x p) (e :: es) [] pos) (fFnN n run fa) := PE.of (pe_callS G hr hg hm hk hb (fun σ => passAt tk σ) ha hdb he hpl) fun σ H Q q => by
  obtain ⟨G, env, μ, R, q⟩ := q
  refine ⟨G, env, μ, R, (tG.bind q).imp (fun _ _ _ _ h => h) ?_⟩
  rintro vs H1 ⟨G1, μ1, ds, x1, R1, d1, q1⟩
  by_cases hl : ds.length = n
  · rw [if_pos hl] at q1
    refine ⟨(Dats.length d1).trans hl, ?_⟩
    rw [hK]
    exact ⟨G1, c.L, ds, μ1, R1.toRRel.entry, d1, call_runN R1 d1 (q1.imp (fun _ _ _ _ z => z.base x1) fun _ _ z => z)⟩
  · rw [if_neg hl] at q1; exact q1.elim
def fFn0 (run : RunF) : FE := fun _ μ => (run [] μ).nx.bind fun r μ => match r with
    | .val d => .ok (.val d) μ
    | .own ds => .ok (.val (.lst ds)) μ
    | .dic ks ds => .ok (.val (.dct ks ds)) μ
    | .un => .bad
def fRaise (j : Nat) : FS := fun env μ => .exc ⟨j, []⟩ env μ
def SRes.nx : SRes → SRes
  | .exc _ _ _ => .bad
  | r => r
end
end Q
set_option Elab.async false
set_option linter.all false
set_option maxRecDepth 100000
set_option maxHeartbeats 4000000
namespace Q
open PySem PySem.Spec PyProof.Rows L2
def sqS (K : PySem.W.Frag) (H : Hp) (k : Bool) (a : Addr) (xs : List V) : Prop := if k then SqL K H a xs else SqT K H a xs
def itS (h : Heap) (k : Bool) (it a : Addr) (i : Nat) : Prop := if k then h.IsListIter it a i else h.IsTupleIter it a i
def isS (h : Heap) (k : Bool) (a : Addr) (its : Array Value) : Prop := if k then h.IsList a its else h.IsTuple a its
def beg (k : Bool) (a : Addr) : Obj := if k then { cls := .type "list_iterator", data := .fields #[.ref a, .int 0 0] } else { cls := .type "tuple_iterator", data := .fields #[.ref a, .int 0 0] }
theorem beg_ok (k : Bool) (a : Addr) (its : Array Value) : Begins (.ref a) (beg k a) fun h => isS h k a its := by
  cases k
  · exact begins_tuple a its
  · exact begins_list a its
theorem draw_ok {prog : Program} {w : World} {A : Around} (hh : A.handled = none) (k : Bool) (it a : Addr) (hne : a ≠ it) (its : Array Value) :
    Draws prog w A it [it, a] its.size (fun i v => its[i]? = some v) (fun i h => itS h k it a i ∧ isS h k a its) := by
  cases k
  · exact Draws.tuple hh it a hne its
  · exact Draws.list hh it a hne its
theorem beg_it {h : Heap} {k : Bool} {it a : Addr} (e : h.get? it = some (beg k a)) : itS h k it a 0 := by
  cases k
  · exact ⟨_, e, rfl, rfl⟩
  · exact ⟨_, e, rfl, rfl⟩
theorem itS_ne {h : Heap} {k : Bool} {it a : Addr} {i : Nat} {its : Array Value} (x : itS h k it a i) (y : isS h k a its) : a ≠ it := fun z => by
  subst z
  cases k
  · obtain ⟨o, e, c, _⟩ := x
    obtain ⟨o', e', c', _⟩ := y
    rw [e] at e'; cases e'; rw [c] at c'; injection c' with c'; exact absurd c' (by decide)
  · obtain ⟨o, e, c, _⟩ := x
    obtain ⟨o', e', c', _⟩ := y
    rw [e] at e'; cases e'; rw [c] at c'; injection c' with c'; exact absurd c' (by decide)
theorem itS_at {h h' : Heap} {k : Bool} {it a : Addr} {i : Nat} (x : itS h k it a i) (e : ∀ o, h.get? it = some o → h'.get? it = some o) : itS h' k it a i := by
  cases k
  · exact x.at e
  · exact x.at e
theorem itS_obj {h : Heap} {k : Bool} {it a : Addr} {i : Nat} (x : itS h k it a i) : ∃ o, h.get? it = some o ∧ ∀ v, o.data ≠ .cell v := by
  cases k
  · obtain ⟨o, e, c, d⟩ := x
    exact ⟨o, e, fun v z => by rw [d] at z; cases z⟩
  · obtain ⟨o, e, c, d⟩ := x
    exact ⟨o, e, fun v z => by rw [d] at z; cases z⟩
section
variable {X : Cx} {pins : List (Addr × Obj)} {σ : Sl} {H : Hp} {s : Shared} {k : Bool} {a : Addr} {xs : List V}
theorem inv_src (I : Inv X pins σ H s) (h : sqS X.K H k a xs) : ∃ its : List Value, Vals xs its ∧ isS s.heap k a its.toArray ∧ a < s.heap.objs.size := by
  cases k
  · obtain ⟨its, r, p, _⟩ := I.tuple h
    obtain ⟨o, e, _⟩ := id p
    exact ⟨its, r, p, Heap.lt_size e⟩
  · obtain ⟨its, r, p, _⟩ := I.list h
    exact ⟨its, r, p.isList, p.lt⟩
theorem src_inj (I : Inv X pins σ H s) {ys : List V} (h : sqS X.K H k a xs) (h' : sqS X.K H k a ys) : xs = ys := by
  cases k
  · exact I.tuple_inj h h'
  · exact I.list_inj h h'
end
def ItE (K : PySem.W.Frag) (k : Bool) (a : Addr) : It :=
  ⟨fun i H => ∃ xs x, sqS K H k a xs ∧ xs[i]? = some x,
   fun i H v H' => ∃ T x o, v = .ref T ∧ H T = none ∧ o.dict = none ∧ H' = upd H T (.frz o (.tup [.int (i : Int), x])) ∧ ∀ xs, sqS K H k a xs → xs[i]? = some x,
   fun i H => ∃ xs, sqS K H k a xs ∧ xs.length = i⟩
theorem turn_en {P : Program} {w : World} {K : PySem.W.Frag} {elts : List Expr} {kk : Nat} {tpos : Pos} (k : Bool) (a e it : Addr) (hne : e ≠ it) : Turn P w K (.Tuple elts kk tpos) (ItE K k a) [e, it] e (fun i h => (∃ old, IsEnum h e it (0 + ((i : Nat) : Int)) old) ∧ itS h k it a i) where
  mem := by simp
  obj := fun i h st b hb => by
    obtain ⟨⟨old, h1⟩, h2⟩ := st
    have hb' : b = e ∨ b = it := by simpa using hb
    rcases hb' with z | z
    · rw [z]; exact ⟨_, h1, fun v q => nomatch q⟩
    · rw [z]; exact itS_obj h2
  keep := fun i h h' st kp => by
    obtain ⟨⟨old, h1⟩, h2⟩ := st
    exact ⟨⟨old, kp e (by simp) _ h1⟩, itS_at h2 fun o q => kp it (by simp) o q⟩
  item := by
    intro X hP hw hK hc i pins s σ H E I hf st hg
    subst hP hw hK
    obtain ⟨xs, x, hq, hx⟩ := hg
    obtain ⟨its, rv, p, hlt⟩ := inv_src I hq
    obtain ⟨u, hu, ru⟩ := rv.get hx
    have hn := itS_ne st.2 p
    have hit : it < s.heap.objs.size := by obtain ⟨o, q, _⟩ := itS_obj st.2; exact Heap.lt_size q
    have hea : e ≠ a := fun z => by
      obtain ⟨old, h1⟩ := st.1
      subst z
      cases k
      · obtain ⟨o', e', c', _⟩ := p
        have h1' : s.heap.get? e = some _ := h1
        rw [e'] at h1'; cases h1'; injection c' with c'; exact absurd c' (by decide)
      · obtain ⟨o', e', c', _⟩ := p
        have h1' : s.heap.get? e = some _ := h1
        rw [e'] at h1'; cases h1'; injection c' with c'; exact absurd c' (by decide)
    have D := enum_nd (elts := elts) (x1 := kk) (pos := tpos) 0 (draw_ok (prog := X.prog) (w := X.w) (A := X.A.in1) (I.ok.hd hc) k it a hn its.toArray) e hne (fun z => by
      rcases List.mem_cons.mp z with q | q
      · exact hne q
      · exact hea (by simpa using q)) (by simp)
    refine D.goes i s _ E ?_ ⟨st.1, st.2, p⟩ fun v h' tk ⟨T, t, y, ev, hT, hy, hTt, oo, hoo, hdd⟩ st' kp _ => ?_
    · have := (List.getElem?_eq_some_iff.mp hu).1
      rw [List.size_toArray]; exact this
    · have hy' : u = y := by
        have z : its.toArray[i]? = some u := by simpa using hu
        rw [z] at hy; exact Option.some.inj hy
      subst hy'
      subst ev
      obtain ⟨ob, o1, o2, n, o3⟩ := hTt
      have new : ObjOk X.prog X.w (upd H T (.frz oo (.tup [.int (i : Int), x]))) h' T (.frz oo (.tup [.int (i : Int), x])) :=
        ⟨hoo, by show 2 ≤ sizeLine; decide, [.int (0 + (i : Int)) t, u], .cons ⟨t, by rw [Int.zero_add]⟩ (.cons ru .nil), ⟨ob, o1, o2, n, o3⟩⟩
      have I1 : Inv X pins σ (upd H T (.frz oo (.tup [.int (i : Int), x]))) { s with heap := h', toks := tk } := I.turnedNew (ch := [e, it]) kp hf hT new
      refine ⟨.ref T, _, I1, rfl, ⟨T, x, oo, rfl, I.hok.fresh hT, hdd, rfl, fun ys hy => by rw [src_inj I hy hq]; exact hx⟩, ⟨st'.1, st'.2.1⟩, fun b hb => ?_⟩
      have hlt' : b < s.heap.objs.size := by
        have hb' : b = e ∨ b = it := by simpa using hb
        rcases hb' with z | z
        · obtain ⟨old, h1⟩ := st.1
          rw [z]; exact Heap.lt_size h1
        · rw [z]; exact hit
      rw [upd_ne (Nat.ne_of_lt (Nat.lt_of_lt_of_le hlt' hT))]
      exact (hf b hb).1
  done := by
    intro X hP hw hK hc i pins s σ H E I hf st hg
    subst hP hw hK
    obtain ⟨xs, hq, hx⟩ := hg
    obtain ⟨its, rv, p, hlt⟩ := inv_src I hq
    have hn := itS_ne st.2 p
    have hea : e ≠ a := fun z => by
      obtain ⟨old, h1⟩ := st.1
      subst z
      cases k
      · obtain ⟨o', e', c', _⟩ := p
        have h1' : s.heap.get? e = some _ := h1
        rw [e'] at h1'; cases h1'; injection c' with c'; exact absurd c' (by decide)
      · obtain ⟨o', e', c', _⟩ := p
        have h1' : s.heap.get? e = some _ := h1
        rw [e'] at h1'; cases h1'; injection c' with c'; exact absurd c' (by decide)
    have D := enum_nd (elts := elts) (x1 := kk) (pos := tpos) 0 (draw_ok (prog := X.prog) (w := X.w) (A := X.A.in1) (I.ok.hd hc) k it a hn its.toArray) e hne (fun z => by
      rcases List.mem_cons.mp z with q | q
      · exact hne q
      · exact hea (by simpa using q)) (by simp)
    have hi : its.toArray.size = i := by rw [List.size_toArray, ← rv.length, hx]
    rw [← hi] at st
    exact D.stops s (fun s' => Inv X pins σ H s') E ⟨st.1, st.2, p⟩ fun h' tk kp _ => I.turnedL (ch := [e, it]) kp hf
  self := fun A i s Q E st h => by
    obtain ⟨⟨old, h1⟩, _⟩ := st
    exact wpAny_pyIter_enum h1 h
set_option maxHeartbeats 8000000 in
theorem en_new {v : Value} {o : Obj} {Hh : Heap → Prop} (B : Begins v o Hh) :
    Meets (Builtin.«enumerate.__new__» ⟨[.type "enumerate", v], []⟩) (fun _ R s => Hh s.heap ∧
      R (.ok (.ret (.ref (s.heap.push o).objs.size))) { s with heap := (s.heap.push o).push { cls := .type "enumerate", data := .fields #[.none, .bool false, .ref s.heap.objs.size, rawInt 0, .none, .none] } }) :=
  .of_wp fun prog w A R s h => by
    obtain ⟨hp, g, d, tk, os⟩ := s
    obtain ⟨h1, h⟩ := h
    have hsub := sub_enumerate
    have go : ∀ {A' : Around} {E : Value → Shared → Prop} {Q : Value → Shared → Prop}, Q (.ref hp.objs.size) ⟨hp.push o, g, d, tk, os⟩ → wpAny (model prog w) A' (pyIter v) Q E ⟨hp, g, d, tk, os⟩ :=
      fun q => B.iter prog w _ _ ⟨hp, g, d, tk, os⟩ _ h1 q
    wp_walk using go
    refine wpAny_stack_any fun st => wpAny_pure ?_
    split
    · rename_i c _ _ _ _ _
      cases (c == Value.type "enumerate")
      · wp_walk using go
        exact ⟨_, rfl, h⟩
      · wp_walk using go
        exact ⟨_, rfl, h⟩
    · wp_walk using go
      exact ⟨_, rfl, h⟩
theorem call_en {prog : Program} {w : World} {A : Around} {E : Value → Shared → Prop} {s : Shared} {v : Value} {o : Obj} {Hh : Heap → Prop} {Q : Value → Shared → Prop} (B : Begins v o Hh) (h1 : Hh s.heap)
    (h : ∀ h', IsEnum h' (s.heap.objs.size + 1) s.heap.objs.size 0 .none → h'.get? s.heap.objs.size = some o → (∀ b u, s.heap.get? b = some u → h'.get? b = some u) → Q (.ref (s.heap.objs.size + 1)) { s with heap := h' }) :
    wpAny (model prog w) A (call (.type "enumerate") [v]) Q E s := by
  refine callType_new F.called_enumerate (by decide) (F.typeCall_enumerate_1 _) (F.newCall_enumerate_1 _) (fun obj => F.args_object_init_2 obj _) F.entry_enumerate_new (en_new B) ⟨h1, ?_⟩
  have hz : (s.heap.push o).objs.size = s.heap.objs.size + 1 := Heap.size_push ..
  show _ ∧ _
  rw [hz]
  have top := Heap.get?_push_size (s.heap.push o) (o := { cls := .type "enumerate", data := .fields #[.none, .bool false, .ref s.heap.objs.size, rawInt 0, .none, .none] }) rfl
  rw [hz] at top
  have he : IsEnum ((s.heap.push o).push { cls := .type "enumerate", data := .fields #[.none, .bool false, .ref s.heap.objs.size, rawInt 0, .none, .none] }) (s.heap.objs.size + 1) s.heap.objs.size 0 .none := top
  exact ⟨⟨_, he, rfl⟩, h _ he (Heap.get?_push_of_some _ (Heap.get?_push_size _ B.free)) fun b u x => Heap.get?_push_of_some _ (Heap.get?_push_of_some _ x)⟩
section
variable {X : Cx}
def iEn (K : PySem.W.Frag) (ta : TA) : TI := fun σ H R => ta σ H fun vs H1 => ∃ k a xs, vs = [.ref a] ∧ sqS K H1 k a xs ∧ R (ItE K k a) H1
theorem pi_en {e : Expr} {ta : TA} {p pos tpos : Pos} {elts : List Expr} {kk : Nat} (hg : Gl X "enumerate") (hm : X.mg "enumerate" = none) (ha : PA X [e] ta) (hs : starEach [e] X.env = [(false, eval e X.env)]) :
    PI X (.Tuple elts kk tpos) (.Call (.Name "enumerate" p) [e] [] pos) (iEn X.K ta) := by
  refine ⟨fun pins s σ H R I h => ?_⟩
  refine Call_ (ld_blt I hg hm PyProof.Rows.boot_enumerate (PyProof.Rows.callWith_type1 (thn (ha.run pos pins s σ H _ I h) fun us s1 ⟨vs, H1, I1, r1, q1⟩ => ?_) hs rfl))
  obtain ⟨k, a, xs, ev, hq, q⟩ := q1
  subst ev
  obtain ⟨u, rfl, ru⟩ := vals1 r1
  cases ru
  obtain ⟨its, rv, p1, hlt⟩ := inv_src I1 hq
  refine call_en (beg_ok k a its.toArray) p1 fun h' he hb hk => wpAny_pyIter_enum he ?_
  have I2 : Inv X pins σ H1 { s1 with heap := h' } := I1.kept (t' := s1.toks) hk
  refine ⟨s1.heap.objs.size + 1, [s1.heap.objs.size + 1, s1.heap.objs.size], _, _, H1, rfl, I2, turn_en k a (s1.heap.objs.size + 1) s1.heap.objs.size (Nat.succ_ne_self _), ⟨⟨_, he⟩, beg_it hb⟩, fun b hbm => ?_, q⟩
  have hle : s1.heap.objs.size ≤ b := by
    have hb' : b = s1.heap.objs.size + 1 ∨ b = s1.heap.objs.size := by simpa using hbm
    rcases hb' with z | z
    · rw [z]; exact Nat.le_succ _
    · rw [z]; exact Nat.le_refl _
  exact I1.fpOk hle (I1.hok.fresh hle)
end
def ItZ (K : PySem.W.Frag) (k1 : Bool) (a : Addr) (k2 : Bool) (b : Addr) : It :=
  ⟨fun i H => ∃ xs ys x y, sqS K H k1 a xs ∧ sqS K H k2 b ys ∧ xs[i]? = some x ∧ ys[i]? = some y,
   fun i H v H' => ∃ T x y o, v = .ref T ∧ H T = none ∧ o.dict = none ∧ H' = upd H T (.frz o (.tup [x, y])) ∧ (∀ xs, sqS K H k1 a xs → xs[i]? = some x) ∧ ∀ ys, sqS K H k2 b ys → ys[i]? = some y,
   fun i H => ∃ xs ys, sqS K H k1 a xs ∧ sqS K H k2 b ys ∧ min xs.length ys.length = i⟩
theorem turn_zp {P : Program} {w : World} {K : PySem.W.Frag} {elts : List Expr} {kk : Nat} {tpos : Pos} {z TI TO i1 i2 a b : Addr} (k1 k2 : Bool) (S : ZipSep2 z TI TO i1 i2 [i1, a] [i2, b]) : Turn P w K (.Tuple elts kk tpos) (ItZ K k1 a k2 b) [z, TI, TO, i1, i2] z
    (fun i h => IsZip h z TI TO .none ∧ IsTupOf2 h TI (.ref i1) (.ref i2) ∧ (∃ x y, IsTupOf2 h TO x y) ∧ itS h k1 i1 a i ∧ itS h k2 i2 b i) where
  mem := by simp
  obj := fun i h st c hc => by
    obtain ⟨hz, hI, ⟨x, y, hO⟩, h1, h2⟩ := st
    have hc' : c = z ∨ c = TI ∨ c = TO ∨ c = i1 ∨ c = i2 := by simpa using hc
    rcases hc' with q | q | q | q | q
    · rw [q]; exact ⟨_, hz, fun v q => nomatch q⟩
    · rw [q]; exact ⟨_, hI, fun v q => nomatch q⟩
    · rw [q]; exact ⟨_, hO, fun v q => nomatch q⟩
    · rw [q]; exact itS_obj h1
    · rw [q]; exact itS_obj h2
  keep := fun i h h' st kp => by
    obtain ⟨hz, hI, ⟨x, y, hO⟩, h1, h2⟩ := st
    exact ⟨kp z (by simp) _ hz, kp TI (by simp) _ hI, ⟨x, y, kp TO (by simp) _ hO⟩, itS_at h1 fun o q => kp i1 (by simp) o q, itS_at h2 fun o q => kp i2 (by simp) o q⟩
  item := by
    intro X hP hw hK hc i pins s σ H E I hf st hg
    subst hP hw hK
    obtain ⟨xs, ys, x, y, hq1, hq2, hx, hy⟩ := hg
    obtain ⟨its1, r1, p1, _⟩ := inv_src I hq1
    obtain ⟨its2, r2, p2, _⟩ := inv_src I hq2
    obtain ⟨u1, hu1, ru1⟩ := r1.get hx
    obtain ⟨u2, hu2, ru2⟩ := r2.get hy
    obtain ⟨hz, hI, hO, h1, h2⟩ := st
    have D := zip_nd (elts := elts) (x1 := kk) (pos := tpos) S (draw_ok (prog := X.prog) (w := X.w) (A := X.A.in1) (I.ok.hd hc) k1 i1 a (itS_ne h1 p1) its1.toArray) (draw_ok (prog := X.prog) (w := X.w) (A := X.A.in1) (I.ok.hd hc) k2 i2 b (itS_ne h2 p2) its2.toArray)
    refine D.goes i s _ E ?_ ⟨hz, hI, hO, ⟨h1, p1⟩, ⟨h2, p2⟩⟩ fun v h' tk ⟨T, w1, w2, ev, hT, e1, e2, hTt, oo, hoo, hdd⟩ st' kp _ => ?_
    · have z1 := (List.getElem?_eq_some_iff.mp hu1).1
      have z2 := (List.getElem?_eq_some_iff.mp hu2).1
      rw [List.size_toArray, List.size_toArray]; omega
    · have q1 : u1 = w1 := by
        have z : its1.toArray[i]? = some u1 := by simpa using hu1
        rw [z] at e1; exact Option.some.inj e1
      have q2 : u2 = w2 := by
        have z : its2.toArray[i]? = some u2 := by simpa using hu2
        rw [z] at e2; exact Option.some.inj e2
      subst q1 q2
      subst ev
      obtain ⟨ob, o1, o2, n, o3⟩ := hTt
      have new : ObjOk X.prog X.w (upd H T (.frz oo (.tup [x, y]))) h' T (.frz oo (.tup [x, y])) := ⟨hoo, by show 2 ≤ sizeLine; decide, [u1, u2], .cons ru1 (.cons ru2 .nil), ⟨ob, o1, o2, n, o3⟩⟩
      have I1 : Inv X pins σ (upd H T (.frz oo (.tup [x, y]))) { s with heap := h', toks := tk } := I.turnedNew (ch := [z, TO, i1, i2]) kp (fun c hc => hf c (by
        have hc' : c = z ∨ c = TO ∨ c = i1 ∨ c = i2 := by simpa using hc
        rcases hc' with q | q | q | q <;> simp [q])) hT new
      refine ⟨.ref T, _, I1, rfl, ⟨T, x, y, oo, rfl, I.hok.fresh hT, hdd, rfl, fun l hl => by rw [src_inj I hl hq1]; exact hx, fun l hl => by rw [src_inj I hl hq2]; exact hy⟩, ⟨st'.1, st'.2.1, st'.2.2.1, st'.2.2.2.1.1, st'.2.2.2.2.1⟩, fun c hcm => ?_⟩
      have hlt' : c < s.heap.objs.size := by
        have hc' : c = z ∨ c = TI ∨ c = TO ∨ c = i1 ∨ c = i2 := by simpa using hcm
        rcases hc' with q | q | q | q | q
        · rw [q]; exact Heap.lt_size hz
        · rw [q]; exact Heap.lt_size hI
        · obtain ⟨_, _, hO⟩ := hO
          rw [q]; exact Heap.lt_size hO
        · obtain ⟨_, e, _⟩ := itS_obj h1
          rw [q]; exact Heap.lt_size e
        · obtain ⟨_, e, _⟩ := itS_obj h2
          rw [q]; exact Heap.lt_size e
      rw [upd_ne (Nat.ne_of_lt (Nat.lt_of_lt_of_le hlt' hT))]
      exact (hf c hcm).1
  done := by
    intro X hP hw hK hc i pins s σ H E I hf st hg
    subst hP hw hK
    obtain ⟨xs, ys, hq1, hq2, hi⟩ := hg
    obtain ⟨its1, r1, p1, _⟩ := inv_src I hq1
    obtain ⟨its2, r2, p2, _⟩ := inv_src I hq2
    obtain ⟨hz, hI, hO, h1, h2⟩ := st
    have D := zip_nd (elts := elts) (x1 := kk) (pos := tpos) S (draw_ok (prog := X.prog) (w := X.w) (A := X.A.in1) (I.ok.hd hc) k1 i1 a (itS_ne h1 p1) its1.toArray) (draw_ok (prog := X.prog) (w := X.w) (A := X.A.in1) (I.ok.hd hc) k2 i2 b (itS_ne h2 p2) its2.toArray)
    have hi' : min its1.toArray.size its2.toArray.size = i := by rw [List.size_toArray, List.size_toArray, ← r1.length, ← r2.length, hi]
    rw [← hi'] at h1 h2
    exact D.stops s (fun s' => Inv X pins σ H s') E ⟨hz, hI, hO, ⟨h1, p1⟩, ⟨h2, p2⟩⟩ fun h' tk kp _ => I.turnedL (ch := [z, TO, i1, i2]) kp fun c hc => hf c (by
      have hc' : c = z ∨ c = TO ∨ c = i1 ∨ c = i2 := by simpa using hc
      rcases hc' with q | q | q | q <;> simp [q])
  self := fun A i s Q E st h => wpAny_pyIter_zip st.1 h
section
variable {X : Cx}
def iZp (K : PySem.W.Frag) (ta : TA) : TI := fun σ H R => ta σ H fun vs H1 => ∃ k1 a k2 b xs ys, vs = [.ref a, .ref b] ∧ sqS K H1 k1 a xs ∧ sqS K H1 k2 b ys ∧ R (ItZ K k1 a k2 b) H1
theorem pi_zp {e e2 : Expr} {ta : TA} {p pos tpos : Pos} {elts : List Expr} {kk : Nat} (hg : Gl X "zip") (hm : X.mg "zip" = none) (ha : PA X [e, e2] ta)
    (hs : starEach [e, e2] X.env = (false, eval e X.env) :: starEach [e2] X.env) (hpl : (backTo pos (starEach [e2] X.env)).any (·.1) = false) :
    PI X (.Tuple elts kk tpos) (.Call (.Name "zip" p) [e, e2] [] pos) (iZp X.K ta) := by
  refine ⟨fun pins s σ H R I h => ?_⟩
  refine Call_ (ld_blt I hg hm PyProof.Rows.boot_zip (PyProof.Rows.callWith_type1 (thn (ha.run pos pins s σ H _ I h) fun us s1 ⟨vs, H1, I1, r1, q1⟩ => ?_) hs hpl))
  obtain ⟨k1, a, k2, b, xs, ys, ev, hq1, hq2, q⟩ := q1
  subst ev
  obtain ⟨u, w, rfl, ru, rw'⟩ := vals2 r1
  cases ru
  cases rw'
  obtain ⟨its1, v1, p1, l1⟩ := inv_src I1 hq1
  obtain ⟨its2, v2, p2, l2⟩ := inv_src I1 hq2
  refine zip_begins2 (beg_ok k1 a its1.toArray) (beg_ok k2 b its2.toArray) p1 p2 fun h' hz hI hO hb1 hb2 hsz hk => wpAny_pyIter_zip hz ?_
  have I2 : Inv X pins σ H1 { s1 with heap := h' } := I1.kept (t' := s1.toks) hk
  have S := zip_sep2 (N := s1.heap.objs.size) (fp1 := [a]) (fp2 := [b]) (fun c hc => by
    have : c = a := by simpa using hc
    rw [this]; exact l1) (fun c hc => by
    have : c = b := by simpa using hc
    rw [this]; exact l2)
  refine ⟨s1.heap.objs.size + 4, [s1.heap.objs.size + 4, s1.heap.objs.size + 2, s1.heap.objs.size + 3, s1.heap.objs.size, s1.heap.objs.size + 1], _, _, H1, rfl, I2, turn_zp k1 k2 S, ⟨hz, hI, ⟨_, _, hO⟩, beg_it hb1, beg_it hb2⟩, fun c hcm => ?_, q⟩
  have hle : s1.heap.objs.size ≤ c := by
    have hc' : c = s1.heap.objs.size + 4 ∨ c = s1.heap.objs.size + 2 ∨ c = s1.heap.objs.size + 3 ∨ c = s1.heap.objs.size ∨ c = s1.heap.objs.size + 1 := by simpa using hcm
    rcases hc' with z | z | z | z | z <;> rw [z] <;> first | exact Nat.le_refl _ | exact Nat.le_add_right _ _
  exact I1.fpOk hle (I1.hok.fresh hle)
end
section
variable {X : Cx} {c : Fx} {W : WX}
def enumD (k : Int) : List D → List D
  | [] => []
  | d :: ds => .tup [.int k, d] :: enumD (k + 1) ds
def zipD : List D → List D → List D
  | d :: ds, e :: es => .tup [d, e] :: zipD ds es
  | _, _ => []
theorem enumD_len : ∀ (ds : List D) (k : Int), (enumD k ds).length = ds.length
  | [], _ => rfl
  | d :: ds, k => congrArg (· + 1) (enumD_len ds (k + 1))
theorem enumD_get : ∀ (ds : List D) (k : Int) (i : Nat) (d : D), ds[i]? = some d → (enumD k ds)[i]? = some (.tup [.int (k + i), d])
  | [], _, _, _, h => by simp at h
  | e :: ds, k, 0, d, h => by
    have : e = d := by simpa using h
    subst this
    simp [enumD]
  | e :: ds, k, i + 1, d, h => by
    have h' : ds[i]? = some d := by simpa using h
    have := enumD_get ds (k + 1) i d h'
    show (enumD (k + 1) ds)[i]? = _
    rw [this]
    congr 4
    omega
theorem zipD_len : ∀ (ds es : List D), (zipD ds es).length = min ds.length es.length
  | [], _ => by simp [zipD]
  | _ :: _, [] => by simp [zipD]
  | d :: ds, e :: es => by simp [zipD, zipD_len ds es]
theorem zipD_get : ∀ (ds es : List D) (i : Nat) (d e : D), ds[i]? = some d → es[i]? = some e → (zipD ds es)[i]? = some (.tup [d, e])
  | [], _, _, _, _, h, _ => by simp at h
  | _ :: _, [], _, _, _, _, h => by simp at h
  | a :: ds, b :: es, 0, d, e, h, h' => by
    have h1 : a = d := by simpa using h
    have h2 : b = e := by simpa using h'
    subst h1 h2
    rfl
  | a :: ds, b :: es, i + 1, d, e, h, h' => zipD_get ds es i d e (by simpa using h) (by simpa using h')
def srcD : D → Option (List D)
  | .tup ds => some ds
  | .lst ds => some ds
  | .frz ds => some ds
  | _ => none
theorem src_at {G H : Hp} (s : Sub G H) {x : V} {d : D} {ds : List D} (dd : Dat c.K G c.L x d) (e : srcD d = some ds) : ∃ k a vs, x = .ref a ∧ (∀ H2, Sub G H2 → sqS c.K H2 k a vs) ∧ Dats c.K G c.L vs ds := by
  cases dd with
  | tup q t => cases e; exact ⟨false, _, _, rfl, fun H2 s2 => s2.sqT q, t⟩
  | lst q t => cases e; exact ⟨true, _, _, rfl, fun H2 s2 => SqL.of (s2 _ _ q), t⟩
  | frz q t => cases e; exact ⟨true, _, _, rfl, fun H2 s2 => s2.sqL q, t⟩
  | _ => cases e
theorem walkD_en {G1 : Hp} {k : Bool} {a : Addr} {vs : List V} {ds : List D} (h : ∀ H2, Sub G1 H2 → sqS c.K H2 k a vs) (d : Dats c.K G1 c.L vs ds) : WalkD c (fun H G => Sub G1 G ∧ Sub G H) (ItE c.K k a) (enumD 0 ds) where
  go := fun i H G hi ⟨s, s2⟩ => by
    rw [enumD_len] at hi
    obtain ⟨v, h1, _⟩ := d.get (i := i) (d := ds[i]) (List.getElem?_eq_getElem hi)
    exact ⟨vs, v, h H (s.trans s2), h1⟩
  stop := fun H G ⟨s, s2⟩ => ⟨vs, h H (s.trans s2), by rw [enumD_len]; exact d.length⟩
  yld := fun i H G x H' hi ⟨s, s2⟩ s3 ⟨T, y, oo, e1, e2, eo, e3, e4⟩ => by
    subst e1 e3
    rw [enumD_len] at hi
    obtain ⟨v, h1, h2⟩ := d.get (i := i) (d := ds[i]) (List.getElem?_eq_getElem hi)
    have hx := e4 vs (h H (s.trans s2))
    rw [h1] at hx
    have hx := Option.some.inj hx
    subst hx
    have gT : G T = none := by
      cases q : G T with
      | none => rfl
      | some o => rw [s3 T o q] at e2; cases e2
    refine ⟨upd G T (.frz oo (.tup [.int (i : Int), v])), sub_upd e2, sub_upd gT, fun b o q => ?_, fun b o q => ?_, .tup [.int (0 + (i : Int)), ds[i]], enumD_get ds 0 i _ (List.getElem?_eq_getElem hi),   .tup (SqTd.of upd_same eo) (.cons (by rw [Int.zero_add]; exact .int _) (.cons ((h2.up s).up (sub_upd gT)) .nil))⟩
    · by_cases hb : b = T
      · subst hb; rw [upd_same] at q ⊢; exact q
      · rw [upd_ne hb] at q ⊢; exact s3 b o q
    · by_cases hb : b = T
      · subst hb; rw [upd_same] at q; cases q; exact .inr ⟨e2, eo⟩
      · rw [upd_ne hb] at q; exact .inl q
theorem walkD_zp {G1 : Hp} {k1 k2 : Bool} {a b : Addr} {vs ws : List V} {ds es : List D} (h : ∀ H2, Sub G1 H2 → sqS c.K H2 k1 a vs) (d : Dats c.K G1 c.L vs ds) (h' : ∀ H2, Sub G1 H2 → sqS c.K H2 k2 b ws) (d' : Dats c.K G1 c.L ws es) : WalkD c (fun H G => Sub G1 G ∧ Sub G H) (ItZ c.K k1 a k2 b) (zipD ds es) where
  go := fun i H G hi ⟨s, s2⟩ => by
    rw [zipD_len] at hi
    have i1 : i < ds.length := by omega
    have i2 : i < es.length := by omega
    obtain ⟨v, h1, _⟩ := d.get (i := i) (d := ds[i]) (List.getElem?_eq_getElem i1)
    obtain ⟨u, h2, _⟩ := d'.get (i := i) (d := es[i]) (List.getElem?_eq_getElem i2)
    exact ⟨vs, ws, v, u, h H (s.trans s2), h' H (s.trans s2), h1, h2⟩
  stop := fun H G ⟨s, s2⟩ => ⟨vs, ws, h H (s.trans s2), h' H (s.trans s2), by rw [zipD_len, d.length, d'.length]⟩
  yld := fun i H G x H' hi ⟨s, s2⟩ s3 ⟨T, y, z, oo, e1, e2, eo, e3, e4, e5⟩ => by
    subst e1 e3
    rw [zipD_len] at hi
    have i1 : i < ds.length := by omega
    have i2 : i < es.length := by omega
    obtain ⟨v, h1, h2⟩ := d.get (i := i) (d := ds[i]) (List.getElem?_eq_getElem i1)
    obtain ⟨u, h3, h4⟩ := d'.get (i := i) (d := es[i]) (List.getElem?_eq_getElem i2)
    have hx := e4 vs (h H (s.trans s2))
    rw [h1] at hx
    have hx := Option.some.inj hx
    subst hx
    have hy := e5 ws (h' H (s.trans s2))
    rw [h3] at hy
    have hy := Option.some.inj hy
    subst hy
    have gT : G T = none := by
      cases q : G T with
      | none => rfl
      | some o => rw [s3 T o q] at e2; cases e2
    refine ⟨upd G T (.frz oo (.tup [v, u])), sub_upd e2, sub_upd gT, fun b o q => ?_, fun b o q => ?_, .tup [ds[i], es[i]], zipD_get ds es i _ _ (List.getElem?_eq_getElem i1) (List.getElem?_eq_getElem i2), .tup (SqTd.of upd_same eo) (.cons ((h2.up s).up (sub_upd gT)) (.cons ((h4.up s).up (sub_upd gT)) .nil))⟩
    · by_cases hb : b = T
      · subst hb; rw [upd_same] at q ⊢; exact q
      · rw [upd_ne hb] at q ⊢; exact s3 b o q
    · by_cases hb : b = T
      · subst hb; rw [upd_same] at q; cases q; exact .inr ⟨e2, eo⟩
      · rw [upd_ne hb] at q; exact .inl q
def fEn (f : FE) : FI := fun env μ => (f env μ).bind fun x μ => match x with
  | .val d => match srcD d with
    | some ds => .ok (enumD 0 ds) μ
    | none => .bad
  | _ => .bad
def fZp (f g : FE) : FI := fun env μ => (f env μ).bind fun x μ => (g env μ).bind fun y μ => match x, y with
  | .val d, .val e => match srcD d, srcD e with
    | some ds, some es => .ok (zipD ds es) μ
    | _, _ => .bad
  | _, _ => .bad
theorem di_en {e : Expr} {f : FE} {elts : List Expr} {kk : Nat} {p pos tpos : Pos} (hm : X.mg "enumerate" = none) (ha : DE X c W e f) (hgl : Gl X "enumerate" := by rfl) (hk : X.K = c.K := by rfl) (hs : starEach [e] X.env = [(false, eval e X.env)] := by rfl) (hs' : starEach [e] X.env = (false, eval e X.env) :: starEach [] X.env := by rfl) :
    DI X c W (.Tuple elts kk tpos) (.Call (.Name "enumerate" p) [e] [] pos) (fEn f) := PI.of (pi_en hgl hm (pa_cons ha pa_nil hs') hs) fun σ H Q q => by
  obtain ⟨G, env, μ, R, q⟩ := q
  refine ⟨G, env, μ, R, (iG.bind q).imp (fun _ _ _ _ h => h) ?_⟩
  rintro v H1 ⟨G1, μ1, x, x1, R1, d1, q1⟩
  cases x with
  | own i => exact q1.elim
  | val d =>
    dsimp only at q1
    split at q1
    · rename_i ds e
      obtain ⟨k, a, vs, rfl, h1, h2⟩ := src_at R1.sub d1 e
      exact ⟨k, a, vs, rfl, hk ▸ h1 H1 R1.sub, q1.now R1 (hk ▸ walkD_en h1 h2)⟩
    · exact q1.elim
theorem di_zp {e e2 : Expr} {f g : FE} {elts : List Expr} {kk : Nat} {p pos tpos : Pos} (hm : X.mg "zip" = none) (ha : DE X c W e f) (hb : DE X c W e2 g) (hgl : Gl X "zip" := by rfl) (hk : X.K = c.K := by rfl) (hs : starEach [e, e2] X.env = (false, eval e X.env) :: starEach [e2] X.env := by rfl) (hs2 : starEach [e2] X.env = (false, eval e2 X.env) :: starEach [] X.env := by rfl) (hpl : (backTo pos (starEach [e2] X.env)).any (·.1) = false := by rfl) :
    DI X c W (.Tuple elts kk tpos) (.Call (.Name "zip" p) [e, e2] [] pos) (fZp f g) := PI.of (pi_zp hgl hm (pa_cons ha (pa_cons hb pa_nil hs2) hs) hs hpl) fun σ H Q q => by
  obtain ⟨G, env, μ, R, q⟩ := q
  refine ⟨G, env, μ, R, (iG.bind q).imp (fun _ _ _ _ h => h) ?_⟩
  rintro v H1 ⟨G1, μ1, x, x1, R1, d1, q1⟩
  refine ⟨G1, env, μ1, R1, (iG.bind q1).imp (fun _ _ _ _ h => h) ?_⟩
  rintro u H2 ⟨G2, μ2, y, x2, R2, d2, q2⟩
  cases x with
  | own i => exact q2.elim
  | val d =>
    cases y with
    | own i => exact q2.elim
    | val e =>
      dsimp only at q2
      split at q2
      · rename_i ds es e1 e2
        obtain ⟨k, a, vs, rfl, h1, h2⟩ := src_at R2.sub (Dat.up x2.gg d1) e1
        obtain ⟨k', a', vs', rfl, h1', h2'⟩ := src_at R2.sub d2 e2
        exact ⟨k, a, k', a', vs, vs', rfl, hk ▸ h1 H2 R2.sub, hk ▸ h1' H2 R2.sub, q2.now R2 (hk ▸ walkD_zp h1 h2 h1' h2')⟩
      · exact q2.elim
end
end Q
set_option Elab.async false
set_option linter.all false
set_option maxRecDepth 100000
set_option maxHeartbeats 4000000
namespace Q
open PySem PySem.Spec PyProof.Rows L2
section
variable {X : Cx} {c : Fx} {W : WX}
def fSetIx (i : Nat) (fe fk : FE) : FS := fun env μ => (fe env μ).to env fun v μ => match v, getL env μ i with
  | .val d, some _ => (fk env μ).to env fun k μ => match k, getL env μ i with
    | .val (.int n), some ds => match ixN ds.length n with
      | some j => .nxt (putL env μ i (ds.set j d)).1 (putL env μ i (ds.set j d)).2
      | none => .bad
    | _, _ => .bad
  | _, _ => .bad
theorem ds_setIx (i : Nat) {x : Str} {e k : Expr} {fe fk : FE} {p p2 pos : Pos} (he : DE X c W e fe) (hk : DE X c W k fk) (hN : X.N[i]? = some x := by rfl) (hv : Vis X.env.scope x := by first | exact Or.inl rfl | exact Or.inr (Or.inl rfl) | exact Or.inr (Or.inr rfl)) (hd : (x == ("__debug__" : Str)) = false := by decide) (hcd : (x == ("__classdict__" : Str)) = false := by decide)
    (ha : ∀ v, assign (.Subscript (.Name x p) k p2) X.env v = (do
      let ov ← holding [v] (eval (.Name x p) X.env)
      let iv ← holding [v, ov] (eval k X.env)
      standAt p2
      holding [v, ov, iv] (setItem ov iv v)
      release [v, ov, iv] []) := by intro _; rfl)
    (hs : swapsWithSole [.Subscript (.Name x p) k p2] e pos.line X.env = pure false := by rfl) (hw : swappedStores [.Subscript (.Name x p) k p2] e X.env = pure none := by rfl) (h1 : (assignEach [.Subscript (.Name x p) k p2] X.env).map (·.2) = [assign (.Subscript (.Name x p) k p2) X.env] := by rfl) :
    DS X c W (.Assign [.Subscript (.Name x p) k p2] e pos) (fSetIx i fe fk) := PS.of (ps_asg he (pg_sub (pe_var hN hv hd hcd) hk set_list ha) hs hw h1) fun D σ H q => by
  obtain ⟨G, env, μ, R, q⟩ := q
  refine ⟨G, env, μ, R, (sG.to R q).imp (fun _ _ _ _ h => h) ?_⟩
  rintro v H1 ⟨G1, μ1, dx, x1, R1, d1, q1⟩
  cases dx with
  | own j => exact q1.elim
  | val d =>
    (try dsimp only at q1)
    split at q1
    · rename_i d' ds0 ed e0
      cases ed
      obtain ⟨a, vs, h1, h2, h3, _⟩ := R1.mut e0
      refine ⟨.ref a, h1, G1, env, μ1, R1, (sG.to R1 q1).imp (fun _ _ _ _ h => h) ?_⟩
      rintro w H2 ⟨G2, μ2, dk, x2, R2, d2, q2⟩
      cases dk with
      | own j => exact q2.elim
      | val dk =>
        (try dsimp only at q2)
        split at q2
        · rename_i n ds1 en e1
          cases en
          cases d2
          obtain ⟨b, ws, z1, z2, z3, z4⟩ := R2.mut e1
          rw [h1] at z1
          have hb : a = b := by injection z1 with z1; injection z1 with z1; injection z1
          subst hb
          split at q2
          · rename_i j ej
            refine ⟨a, ws, n, j, rfl, rfl, z2, by rw [z3.length]; exact ej, ?_⟩
            exact q2 _ _ _ Sub.refl (z4 _ _ (z3.set (Dat.up x2.gg d1) j))
          · exact q2.elim
        · exact q2.elim
    · exact q1.elim
def fBox (run : RunF) (f : FE) : FE := fun env μ => match μ, f env μ with
  | [], .ok (.val (.lst ds)) [] => match run [.loc 0] [ds] with
    | .ok (.val (.bl b)) _ => .ok (.val (.bl b)) []
    | _ => .bad
  | _, _ => .bad
theorem de_box {k : Nat} {f : Addr} {fd : FuncData} {ps : List Str} {run : RunF} {x : Str} {p pos : Pos} {e : Expr} {fe : FE} (G : FnOk X.prog X.w X.K X.mg X.base (L2.CX X.prog X.w) k f fd ps (spD X.KW c.C 1 run)) (hr : Room k X.A) (hm : X.mg x = some (.ref f)) (hk : PySem.W.keepIn X.K (.ref f) = true) (hb : Binds X.K fd ps [])
    (tk : Takes X W) (ha : DN X c W e fe) (hg : Gl X x := by rfl) (hK : X.KW = c.K := by rfl) (hdb : (x == ("__debug__" : Str)) = false := by decide) (hs : starEach [e] X.env = (false, eval e X.env) :: starEach [] X.env := by rfl) (hpl : (backTo pos (starEach [] X.env)).any (·.1) = false := by rfl) :
    DE X c W (.Call (.Name x p) [e] [] pos) (fBox run fe) := PE.of (pe_callS G hr hg hm hk hb (fun σ => passAt tk σ) (pa_cons ha pa_nil hs) hdb hs hpl) fun σ H Q q => by
  obtain ⟨G, env, μ, R, q⟩ := q
  refine ⟨G, env, μ, R, ?_⟩
  unfold fBox at q
  cases ef : fe env μ with
  | bad => rw [ef] at q; cases μ <;> exact q.elim
  | exc z m => rw [ef] at q; cases μ <;> exact q.elim
  | ok d m =>
    rw [ef] at q
    rintro v H1 G1 x1 R1 ⟨a, vs, ds, rfl, rfl, z1, z2, z3, z4, z5⟩
    cases μ with
    | cons _ _ => exact q.elim
    | nil =>
      cases m with
      | cons _ _ => exact q.elim
      | nil =>
        dsimp only at q
        have hL : c.L = [] := List.eq_nil_of_length_eq_zero R.len
        show spD X.KW c.C 1 run [.ref a] H1 Q (WE W σ)
        refine ⟨rfl, G1, [a], [.loc 0], [ds], ⟨R1.sub, List.nodup_cons.mpr ⟨List.not_mem_nil, List.nodup_nil⟩, rfl, ?_, fun _ _ h _ => h, Sub.refl, fun _ _ h => .inl h, R1.nt⟩, .cons (.loc rfl) .nil, ?_⟩
        · intro n b es h1 h2
          match n with
          | 0 =>
            cases h1
            cases h2
            rw [hK]
            exact ⟨z2, vs, z1, z5.mono Sub.refl fun n b e => by rw [hL] at e; simp at e⟩
          | n + 1 => simp at h1
        · cases er : run [.loc 0] [ds] with
          | bad => rw [er] at q; exact q.elim
          | exc z m => rw [er] at q; exact q.elim
          | ok d m =>
            rw [er] at q
            cases d with
            | un => exact q.elim
            | own es => exact q.elim
            | dic ks es => exact q.elim
            | val d =>
              cases d with
              | bl b =>
                intro v H' G' r mm
                have mm : Dat X.KW G' [a] v (.bl b) := mm
                cases mm
                have keep : ∀ b o, H b = some o → b ∉ c.L → H' b = some o := fun b o h n => by
                  have hba : b ≠ a := fun z => by rw [z, z4] at h; cases h
                  exact r.keep b o (x1.keep b o h n) (by simpa using hba)
                have gg : Sub G G' := x1.gg.trans r.gg
                have newG : ∀ b o, G' b = some o → G b = some o ∨ (H b = none ∧ b ∉ c.L) := fun b o h => by
                  rcases r.newG b o h with z | ⟨z, _⟩
                  · exact x1.newG b o z
                  · refine .inr ⟨?_, by rw [hL]; exact List.not_mem_nil⟩
                    cases w : H b with
                    | none => rfl
                    | some u =>
                      have z : H1 b = none := z
                      rw [x1.keep b u w (by rw [hL]; exact List.not_mem_nil)] at z; cases z
                have x : Ext c.L H G H' G' := ⟨keep, gg, newG⟩
                have rr : RRel c H' G' [] := ⟨r.sub, R.nd, R.len, fun n b es h1 _ => by rw [hL] at h1; simp at h1, fun b o h n => keep b o (R.keep b o h n) n, R.gg.trans gg, fun b o h => by
                  rcases newG b o h with z | ⟨z, n⟩
                  · exact R.newG b o z
                  · refine .inr ⟨?_, n⟩
                    cases w : c.H0 b with
                    | none => rfl
                    | some u => exact absurd z (by rw [R.keep b u w n]; exact fun z => by cases z), r.nt⟩
                exact q.now x (R.back x rr) (Dat.bl b)
              | _ => exact q.elim

def perm {α : Type} (js : List Nat) (l : List α) : List α := js.filterMap (l[·]?)
def gK {α : Type} (m n : Nat) (js : List Nat) (us ws : List α) : List α := if us.length = m ∧ ws.length = n then perm js (us ++ ws) else []
theorem Vals.perm {vs : List V} {us : List Value} (h : Vals vs us) : ∀ js : List Nat, Vals (perm js vs) (perm js us)
  | [] => .nil
  | j :: js => by
    unfold Q.perm
    rw [List.filterMap_cons, List.filterMap_cons]
    cases e : vs[j]? with
    | none =>
      have e2 : us[j]? = none := List.getElem?_eq_none (by rw [← h.length]; exact List.getElem?_eq_none_iff.mp e)
      rw [e2]
      exact Vals.perm h js
    | some v =>
      obtain ⟨u, hu, r⟩ := h.get e
      rw [hu]
      exact .cons r (Vals.perm h js)
theorem Dats.perm {K : KW} {G : Hp} {L : List Addr} {vs : List V} {ds : List D} (h : Dats K G L vs ds) : ∀ js : List Nat, Dats K G L (perm js vs) (perm js ds)
  | [] => .nil
  | j :: js => by
    unfold Q.perm
    rw [List.filterMap_cons, List.filterMap_cons]
    cases e : vs[j]? with
    | none =>
      have e2 : ds[j]? = none := List.getElem?_eq_none (by rw [← h.length]; exact List.getElem?_eq_none_iff.mp e)
      rw [e2]
      exact Dats.perm h js
    | some v =>
      obtain ⟨d, hd, r⟩ := h.getV e
      rw [hd]
      exact .cons r (Dats.perm h js)
theorem kb_of {K : PySem.W.Frag} {fd : FuncData} {ps ks : List Str} {m n : Nat} {js : List Nat} (hp : ps.length ≠ 0) (h : ∀ us ws : List Value, us.length = m → ws.length = n → bindArgs fd ⟨us, ks.zip ws⟩ = pure (ps.zip (perm js (us ++ ws)))) : KBinds K fd ps ks (gK m n js) (gK m n js) where
  to s us ws _ hl := by
    unfold gK at hl ⊢
    split at hl
    · rename_i e
      rw [if_pos e]
      exact .of_eq (h us ws e.1 e.2)
    · exact absurd hl.symm hp
  rel {vs us zs ws} r1 r2 := by
    unfold gK
    rw [r1.length, r2.length]
    split
    · exact Vals.perm (r1.append r2) js
    · exact .nil
abbrev DK (X : Cx) (c : Fx) (W : WX) (kws : List Keyword) (f : FA) : Prop := PK X kws (tA c W f)
theorem PK.of {kws : List Keyword} {t t' : TA} (h : PK X kws t) (i : ∀ σ H Q, t' σ H Q → t σ H Q) : PK X kws t' := ⟨fun po pins s σ H Q I q => h.run po pins s σ H Q I (i σ H Q q)⟩
theorem dk_nil : DK X c W [] fNil := PK.of pk_nil fun σ H Q q => by
  obtain ⟨G, env, μ, R, q⟩ := q
  exact q.now Ext.refl R Dats.nil
theorem dk_cons {nm : Option Str} {e : Expr} {kpos : Pos} {kws : List Keyword} {fa : FE} {fr : FA} (ha : DE X c W e fa) (hr : DK X c W kws fr) : DK X c W (⟨nm, e, kpos⟩ :: kws) (fCons fa fr) := PK.of (pk_cons ha hr) fun σ H Q q => by
  obtain ⟨G, env, μ, R, q⟩ := q
  refine ⟨G, env, μ, R, (tG.bind q).imp (fun _ _ _ _ h => h) ?_⟩
  rintro x H1 ⟨G1, μ1, dx, x1, R1, d1, h1⟩
  cases dx with
  | own i => exact h1.elim
  | val d =>
    refine ⟨G1, env, μ1, R1, (tG.bind h1).imp (fun _ _ _ _ h => h) ?_⟩
    rintro xs H2 ⟨G2, μ2, ds, x2, R2, d2, h2⟩
    exact h2.now Ext.refl R2 (Dats.cons (Dat.up x2.gg d1) d2)
end
end Q
set_option Elab.async false
set_option linter.all false
set_option maxRecDepth 100000
set_option maxHeartbeats 4000000
namespace Q
open PySem PySem.Spec PyProof.Rows L2
theorem tk0 {X : Cx} : Takes X W0 := fun _ _ ⟨_, _, _, _, _, _, _, _, _, _, _, _, _, _, _, _, w⟩ => w.elim
section
variable {X : Cx} {c : Fx} {W : WX}
def chars (x : Str) : List D := x.cps.toList.map fun k => .str ⟨#[k]⟩
def fStrI (f : FE) : FI := fun env μ => (f env μ).bind fun x μ => match x with | .val (.str x) => .ok (chars x) μ | _ => .bad
theorem walkD_str {Gd : Hp → Hp → Prop} {x : Str} : WalkD c Gd (Its x) (chars x) where
  go := fun i H G hi _ => by
    have h : i < x.cps.size := by simpa [chars] using hi
    exact h
  stop := fun H G _ => by
    show x.cps.size ≤ (chars x).length
    simp [chars]
  yld := fun i H G v H' hi _ s3 ⟨e, k, hk, ev⟩ => by
    subst e ev
    refine ⟨G, Sub.refl, Sub.refl, s3, fun _ _ z => .inl z, .str ⟨#[k]⟩, ?_, .str _⟩
    have : x.cps.toList[i]? = some k := by rw [Array.getElem?_toList]; exact hk
    show (x.cps.toList.map _)[i]? = _
    rw [List.getElem?_map, this]
    rfl
theorem di_str {tg e : Expr} {f : FE} (he : DE X c W e f) : DI X c W tg e (fStrI f) := PI.of (pi_str he) fun σ H Q q => by
  obtain ⟨G, env, μ, R, q⟩ := q
  refine ⟨G, env, μ, R, (iG.bind q).imp (fun _ _ _ _ h => h) ?_⟩
  rintro v H1 ⟨G1, μ1, x, x1, R1, d1, q1⟩
  split at q1
  · cases d1
    exact ⟨_, rfl, q1.now R1 walkD_str⟩
  · exact q1.elim
def fAny (f : FE) : FI := fun env μ => match f env μ with
  | .ok (.val (.tup ds)) μ => .ok ds μ
  | .ok (.val (.lst ds)) μ => .ok ds μ
  | .ok (.val (.frz ds)) μ => .ok ds μ
  | .ok (.val (.str x)) μ => .ok (chars x) μ
  | .exc e μ => .exc e μ
  | _ => .bad
theorem di_any {tg e : Expr} {f : FE} (he : DE X c W e f) (hk : X.K = c.K := by rfl) : DI X c W tg e (fAny f) := ⟨fun pins s σ H R I q => by
  obtain ⟨G, env, μ, F, q⟩ := q
  have h1 := di_tup (tg := tg) he hk
  have h2 := di_lst (tg := tg) he hk
  have a1 : fSeqI f env μ = fAny f env μ → wpAny (model X.prog X.w) X.A (eval e X.env) _ X.xe s := fun e => h1.run pins s σ H R I ⟨G, env, μ, F, e ▸ q⟩
  have a2 : fLstI f env μ = fAny f env μ → wpAny (model X.prog X.w) X.A (eval e X.env) _ X.xe s := fun e => h2.run pins s σ H R I ⟨G, env, μ, F, e ▸ q⟩
  have h3 := di_str (tg := tg) he
  have a3 : fStrI f env μ = fAny f env μ → wpAny (model X.prog X.w) X.A (eval e X.env) _ X.xe s := fun e => h3.run pins s σ H R I ⟨G, env, μ, F, e ▸ q⟩
  unfold fStrI fAny at a3
  unfold fSeqI fAny at a1
  unfold fLstI fAny at a2
  unfold fAny at q
  cases ef : f env μ with
  | bad => rw [ef] at q; exact q.elim
  | exc z m => rw [ef] at a1; exact a1 rfl
  | ok x m =>
    rw [ef] at a1 a2 a3 q
    cases x with
    | own i => exact q.elim
    | val d =>
      cases d with
      | tup ds => exact a1 rfl
      | lst ds => exact a2 rfl
      | frz ds => exact a2 rfl
      | str x => exact a3 rfl
      | _ => exact q.elim⟩
theorem ch_of {r1 r2 : R2} {g g' : Int → Int → Bool} {fa fb fc : FE} {σ : Sl} {H : Hp} {Q : VK} (q : tE c W (fCh g g' fa fb fc) σ H Q) : tChain (rI0 fun i j => .bl (g i j)) (rI0 fun i j => .bl (g' i j)) (tE c W fa) (tE c W fb) (tE c W fc) σ H Q := by
  obtain ⟨G, env, μ, R, q⟩ := q
  refine ⟨G, env, μ, R, (tG.bind q).imp (fun _ _ _ _ h => h) ?_⟩
  rintro x H1 ⟨G1, μ1, dx, x1, R1, d1, h1⟩
  refine ⟨G1, env, μ1, R1, (tG.bind h1).imp (fun _ _ _ _ h => h) ?_⟩
  rintro y H2 ⟨G2, μ2, dy, x2, R2, d2, h2⟩
  have d1' := d1.up x2.gg
  split at h2
  · cases d1'; cases d2
    refine ⟨_, _, rfl, rfl, _, rfl, ?_⟩
    rename_i i j
    cases e : g i j with
    | true =>
      rw [e] at h2
      refine (if_pos rfl).mpr ?_
      refine ⟨G2, env, μ2, R2, (tG.bind h2).imp (fun _ _ _ _ h => h) ?_⟩
      rintro z H3 ⟨G3, μ3, dz, x3, R3, d3, h3⟩
      split at h3
      · cases d3
        exact ⟨_, _, rfl, rfl, h3.now Ext.refl R3 (show DatX c G3 σ _ (.val (.bl _)) from Dat.bl _)⟩
      · exact h3.elim
    | false =>
      rw [e] at h2
      refine (if_neg Bool.false_ne_true).mpr ?_
      exact h2.now Ext.refl R2 (show DatX c G2 σ _ (.val (.bl _)) from Dat.bl _)
  · exact h2.elim
def cmpI : CmpOp → Int → Int → Bool
  | .Lt, i, j => decide (i < j)
  | .LtE, i, j => decide (i ≤ j)
  | .Gt, i, j => decide (j < i)
  | .GtE, i, j => decide (j ≤ i)
  | _, _, _ => false
def isOrd : CmpOp → Bool
  | .Lt | .LtE | .Gt | .GtE => true
  | _ => false
theorem op_ord {op : CmpOp} (h : isOrd op = true) : OpR X (compareOp op) (rI0 fun i j => .bl (cmpI op i j)) := by
  cases op with
  | Lt => exact op_lt
  | LtE => exact op_le
  | Gt => exact op_gt
  | GtE => exact op_ge
  | _ => cases h
theorem dt_ch {a b d : Expr} {op op' : CmpOp} {pos : Pos} {fa fb fc : FE} (ha : DE X c W a fa) (hb : DE X c W b fb) (hc : DE X c W d fc) (h1 : isOrd op = true := by rfl) (h2 : isOrd op' = true := by rfl) (hm : lastMarks [op, op'] [b, d] = false := by with_unfolding_all rfl) : DT X c W (.Compare a [op, op'] [b, d] pos) (fTB (fCh (cmpI op) (cmpI op') fa fb fc)) :=
  dt_of (t := tChain (rI0 fun i j => .bl (cmpI op i j)) (rI0 fun i j => .bl (cmpI op' i j)) (tE c W fa) (tE c W fb) (tE c W fc)) (pt_chain (op_ord h1) (op_ord h2) ha hb hc hm) fun _ _ _ q => ch_of (r1 := rI0 fun i j => .bl (cmpI op i j)) (r2 := rI0 fun i j => .bl (cmpI op' i j)) q
def fOrN (fa fb : FE) : FE := fun env μ => (fa env μ).bind fun x μ => match x with
  | .val (.lst ds) => if ds.isEmpty then fb env μ else .ok (.val (.lst ds)) μ
  | _ => .bad
theorem dn_or {a b : Expr} {pos : Pos} {fa fb : FE} (ha : DN X c W a fa) (hb : DN X c W b fb) : DN X c W (.BoolOp .Or [a, b] pos) (fOrN fa fb) := PE.of (pe_orT ha (pe_one hb)) fun σ H Q q => by
  obtain ⟨G, env, μ, R, q⟩ := q
  refine ⟨G, env, μ, R, (tG.bind q).imp (fun _ _ _ _ h => h) ?_⟩
  rintro x H1 ⟨G1, μ1, dx, x1, R1, ⟨a, vs, ds, e1, e2, z1, z2, z3, z4, z5⟩, h1⟩
  subst e1 e2
  dsimp only at h1
  have tr : ∀ b, ds.isEmpty = !b → TruV X.K (.ref a) H1 b := fun b e => .inl ⟨vs, SqL.of z1, by rw [empty_eq z5, e, Bool.not_not]⟩
  cases he : ds.isEmpty with
  | true =>
    rw [if_pos he] at h1
    refine ⟨false, tr false he, (if_neg Bool.false_ne_true).mpr ⟨G1, env, μ1, R1, h1.imp (fun _ _ _ _ z => z.base x1) fun _ _ z => z⟩⟩
  | false =>
    rw [if_neg (by rw [he]; exact Bool.false_ne_true)] at h1
    exact ⟨true, tr true he, (if_pos rfl).mpr (h1.now Ext.refl R1 ⟨a, vs, ds, rfl, rfl, z1, z2, z3, z4, z5⟩)⟩
end
structure Cal (P : Program) (w : World) (K : PySem.W.Frag) (mg : Str → Option Value) (base : Heap) (C : Nat → Addr) (k : Nat) (x : Str) (st : Stmt) (ps : List Str) (n : Nat) (run : RunF) : Prop where
  ex : ∃ (f : Addr) (fd : FuncData), Fun K x x st f fd ∧ FnOk P w K mg base (L2.CX P w) k f fd ps (spD ⟨K, w⟩ C n run) ∧ mg x = some (.ref f) ∧ PySem.W.keepIn K (.ref f) = true ∧ Binds K fd ps []
structure CalK (P : Program) (w : World) (K : PySem.W.Frag) (mg : Str → Option Value) (base : Heap) (C : Nat → Addr) (k : Nat) (x : Str) (ks : List Str) (p m n : Nat) (js : List Nat) (run : RunF) : Prop where
  ex : ∃ (f : Addr) (fd : FuncData) (ps : List Str), FnOk P w K mg base (L2.CX P w) k f fd ps (spD ⟨K, w⟩ C p run) ∧ mg x = some (.ref f) ∧ PySem.W.keepIn K (.ref f) = true ∧ KBinds K fd ps ks (gK m n js) (gK m n js)
section
variable {X : Cx} {c : Fx} {W : WX} {k n : Nat} {x : Str} {st : Stmt} {ps : List Str} {run : RunF} {p pos : Pos} {e : Expr} {es : List Expr} {fa : FA}
theorem de_cal (h : Cal X.prog X.w X.K X.mg X.base c.C k x st ps n run) (hr : Room k X.A) (tk : Takes X W) (ha : DA X c W (e :: es) fa) (hg : Gl X x := by rfl) (hK : X.KW = c.K := by rfl) (hdb : (x == ("__debug__" : Str)) = false := by decide) (he : starEach (e :: es) X.env = (false, eval e X.env) :: starEach es X.env := by rfl) (hpl : (backTo pos (starEach es X.env)).any (·.1) = false := by rfl) :
    DE X c W (.Call (.Name x p) (e :: es) [] pos) (fFn n run fa) := by
  obtain ⟨f, fd, _, G, hm, hk, hb⟩ := h.ex
  exact de_call G hr hm hk hb tk ha hg hK hdb he hpl
theorem dn_cal (h : Cal X.prog X.w X.K X.mg X.base c.C k x st ps n run) (hr : Room k X.A) (tk : Takes X W) (ha : DA X c W (e :: es) fa) (hg : Gl X x := by rfl) (hK : X.KW = c.K := by rfl) (hdb : (x == ("__debug__" : Str)) = false := by decide) (he : starEach (e :: es) X.env = (false, eval e X.env) :: starEach es X.env := by rfl) (hpl : (backTo pos (starEach es X.env)).any (·.1) = false := by rfl) :
    DN X c W (.Call (.Name x p) (e :: es) [] pos) (fFnN n run fa) := by
  obtain ⟨f, fd, _, G, hm, hk, hb⟩ := h.ex
  exact dn_call G hr hm hk hb tk ha hg hK hdb he hpl
theorem de_calBox {fe : FE} (h : Cal X.prog X.w X.K X.mg X.base c.C k x st ps 1 run) (hr : Room k X.A) (tk : Takes X W) (ha : DN X c W e fe) (hg : Gl X x := by rfl) (hK : X.KW = c.K := by rfl) (hdb : (x == ("__debug__" : Str)) = false := by decide) (hs : starEach [e] X.env = (false, eval e X.env) :: starEach [] X.env := by rfl) (hpl : (backTo pos (starEach [] X.env)).any (·.1) = false := by rfl) :
    DE X c W (.Call (.Name x p) [e] [] pos) (fBox run fe) := by
  obtain ⟨f, fd, _, G, hm, hk, hb⟩ := h.ex
  exact de_box G hr hm hk hb tk ha hg hK hdb hs hpl
end
structure Df (K : PySem.W.Frag) (mg : Str → Option Value) (x : Str) (st : Stmt) (ps : List Str) : Prop where
  ex : ∃ (f : Addr) (fd : FuncData), Fun K x x st f fd ∧ mg x = some (.ref f) ∧ Binds K fd ps []
theorem Df.mk' {K : PySem.W.Frag} {h : Heap} {mg : Str → Option Value} {x : Str} {st : Stmt} {ps : List Str} {f : Addr} {oc : Value} {od an : Option Addr} {osl : Array (Option Value)} {kV doc pm cdv ct : Value} (X : K.In h) (G : h.Ns mainGlobals mg) (a : PySem.W.nsIn K mainGlobals x = some (some (.ref f)))
    (l : K.lookup f = some ⟨oc, od, .func (PySem.W.fnOf x x (defArgs st) (defBody st) (defScope st) .none kV doc pm an cdv ct), osl⟩) (c : PySem.W.codeIn K cdv x = true) (k : PySem.W.keepIn K (.ref f) = true)
    (hb : ∀ (kV doc pm : Value) (an : Option Addr) (cdv ct : Value) (us : List Value), us.length = ps.length → bindArgs (PySem.W.fnOf x x (defArgs st) (defBody st) (defScope st) .none kV doc pm an cdv ct) ⟨us, []⟩ = pure (ps.zip us)) : Df K mg x st ps := by
  have F := fun_mk (st := st) l c k
  exact ⟨f, _, F, PySem.W.mg_of X G a, F.binds (ps := ps) hb⟩
theorem fn_zero {P : Program} {w : World} {K : PySem.W.Frag} {mg : Str → Option Value} {base : Heap} {C : Nat → Addr} {f : Addr} {fd : FuncData} {ps : List Str} : FnOk P w K mg base (L2.CX P w) 0 f fd ps (spD ⟨K, w⟩ C ps.length fun _ _ => .bad) := by
  have no : ∀ vs H Q E, ¬ spD ⟨K, w⟩ C ps.length (fun _ _ => .bad) vs H Q E := fun vs H Q E h => by
    obtain ⟨_, _, _, _, _, _, _, h⟩ := h
    exact h
  exact ⟨fun vs H Q E h => absurd h (no vs H Q E), fun A outer s H args us vs Q E _ _ _ _ h => absurd h (no vs H Q E)⟩
theorem Df.cal0 {P : Program} {w : World} {K : PySem.W.Frag} {mg : Str → Option Value} {base : Heap} {C : Nat → Addr} {x : Str} {st : Stmt} {ps : List Str} (h : Df K mg x st ps) : Cal P w K mg base C 0 x st ps ps.length (fun _ _ => .bad) := by
  obtain ⟨f, fd, F, hm, hb⟩ := h.ex
  exact ⟨f, fd, F, fn_zero, hm, F.kp, hb⟩
theorem Df.calS {P : Program} {w : World} {K : PySem.W.Frag} {mg : Str → Option Value} {base : Heap} {C : Nat → Addr} {x : Str} {st : Stmt} {ps N : List Str} {k : Nat} {fb : FS} (h : Df K mg x st ps) (S : FnScope N ps (defScope st))
    (hb : ∀ (f : Addr) (cdv : Value) (A : Around) (outer : List Env) (s : Shared) (H : Hp) (E : XK) (L : List Addr) (H0 G0 : Hp), Room k (A.deeper (envOfC x (defScope st) s.heap.objs.size f cdv)) →
      DSs (cxOf (L2.CX P w) P w K mg base N x (defScope st) f cdv A outer s H E) ⟨⟨K, w⟩, L, H0, G0, C⟩ (fun cls d _ H => E cls d H) (defBody st) fb) : Cal P w K mg base C (k + 1) x st ps ps.length (runOf N.length fb) := by
  obtain ⟨f, fd, F, hm, hB⟩ := h.ex
  refine ⟨f, fd, F, fn_ok F S fun cdv A outer s H E c hK hC hr => ?_, hm, F.kp, hB⟩
  obtain ⟨K', L, H0, G0, C'⟩ := c
  dsimp only at hK hC
  subst hK hC
  exact hb f cdv A outer s H E L H0 G0 hr
theorem Cal.kw {P : Program} {w : World} {K : PySem.W.Frag} {mg : Str → Option Value} {base : Heap} {C : Nat → Addr} {x : Str} {k p m n : Nat} (js : List Nat) {ks ps : List Str} {st : Stmt} {run : RunF} (hc : Cal P w K mg base C k x st ps p run) (hp : ps.length ≠ 0)
    (hb : ∀ (kV doc pm : Value) (an : Option Addr) (cdv ct : Value) (us ws : List Value), us.length = m → ws.length = n → bindArgs (PySem.W.fnOf x x (defArgs st) (defBody st) (defScope st) .none kV doc pm an cdv ct) ⟨us, ks.zip ws⟩ = pure (ps.zip (perm js (us ++ ws)))) : CalK P w K mg base C k x ks p m n js run := by
  obtain ⟨f, fd, F, G, hm, kp, hB⟩ := hc.ex
  obtain ⟨oc, od, kV, doc, pm, an, cdv, ct, osl, rfl, lk, hcd⟩ := F.ex
  exact ⟨f, _, ps, G, hm, kp, kb_of hp (hb kV doc pm an cdv ct)⟩
end Q
set_option Elab.async false
set_option linter.all false
set_option maxRecDepth 100000
set_option maxHeartbeats 4000000
namespace Q
open PySem PySem.Spec PyProof.Rows L2
structure Xc (K : PySem.W.Frag) (mg : Str → Option Value) (x : Str) (C : Addr) : Prop where
  gC : mg x = some (.ref C)
  kC : PySem.W.keepIn K (.ref C) = true
  bC : PySem.W.subIn K (.ref C) (.type "BaseException") = some true
  tC : PySem.W.typeIn K (.ref C) = some (.type "type")
  ex : PySem.W.exmOne K (.ref C) (.ref C) = some true
  own : ∃ B newId initId bmB, ExcBaseFacts B newId initId bmB ∧ PySem.W.excIn K C bmB newId = true
section
variable {X : Cx} {c : Fx} {W : WX}
end
end Q
set_option Elab.async false
set_option linter.all false
set_option maxRecDepth 100000
set_option maxHeartbeats 4000000
namespace Q
open PySem PySem.Spec PyProof.Rows L2
def ltN : List Nat → List Nat → Bool
  | _, [] => false
  | [], _ :: _ => true
  | x :: xs, y :: ys => if x = y then ltN xs ys else decide (x < y)
mutual
/-- x < y, of data that may be compared -/
def D.lt : D → D → Bool
  | .int i, .int j => decide (i < j)
  | .str x, .str y => ltN x.cps.toList y.cps.toList
  | .tup xs, .tup ys => D.lts xs ys
  | _, _ => false
def D.lts : List D → List D → Bool
  | _, [] => false
  | [], _ :: _ => true
  | x :: xs, y :: ys => if D.eq x y then D.lts xs ys else D.lt x y
end
mutual
/-- they may be compared -/
def D.cmp : D → D → Bool
  | .int _, .int _ => true
  | .str _, .str _ => true
  | .tup xs, .tup ys => D.cmps xs ys
  | _, _ => false
def D.cmps : List D → List D → Bool
  | _, [] => true
  | [], _ :: _ => true
  | x :: xs, y :: ys => D.cmp x y && D.cmps xs ys
end
def ins (x : D) : List D → List D
  | [] => [x]
  | y :: l => if D.lt y x then y :: ins x l else x :: y :: l
def isort : List D → List D
  | [] => []
  | x :: l => ins x (isort l)
def sortable (ds : List D) : Bool := ds.all (fun d => ds.all fun e => D.cmp d e) && D.plains ds && decide (D.deps ds ≤ 60)
def dedup : List D → List D
  | [] => []
  | x :: l => x :: (dedup l).filter fun y => !D.eq x y
def fEnz (f g : FE) : FI := fun env μ => (fZp f g env μ).bind fun ds μ => .ok (enumD 0 ds) μ
end Q
set_option Elab.async false
set_option linter.all false
set_option maxRecDepth 100000
set_option maxHeartbeats 4000000
namespace Q
open PySem PySem.Spec PyProof.Rows L2
section
variable {prog : Program} {w : World} {A : Around} {E : Value → Shared → Prop} {s : Shared} {z TI TO i1 i2 : Addr} {fa fb : List Addr} {na nb i : Nat} {Pa Pb : Nat → Value → Prop} {Sa Sb : Nat → Heap → Prop}
end
end Q
set_option Elab.async false
set_option linter.all false
set_option maxRecDepth 100000
set_option maxHeartbeats 4000000
namespace Q
open PySem PySem.Spec PyProof.Rows L2
section
variable {prog : Program} {w : World} {A : Around} {E : Value → Shared → Prop} {s : Shared} {e z TI TO i1 i2 : Addr} {fa fb : List Addr} {na nb i : Nat} {Pa Pb : Nat → Value → Prop} {Sa Sb : Nat → Heap → Prop} {c : Int} {old : Value}
end
end Q
set_option Elab.async false
set_option linter.all false
set_option maxRecDepth 100000
set_option maxHeartbeats 4000000
namespace Q
open PySem PySem.Spec PyProof.Rows L2
set_option maxHeartbeats 8000000 in
section
variable {X : Cx}
end
section
variable {X : Cx} {c : Fx} {W : WX}
end
end Q
set_option Elab.async false
set_option linter.all false
set_option maxRecDepth 100000
set_option maxHeartbeats 4000000
namespace Q
open PySem PySem.Spec PyProof.Rows L2
structure Okay (ds : List D) : Prop where
  cmp : ∀ d ∈ ds, ∀ e ∈ ds, D.cmp d e = true
  pl : ∀ d ∈ ds, D.plain d = true
  dp : ∀ d ∈ ds, D.dep d ≤ 60
end Q
set_option Elab.async false
set_option linter.all false
set_option maxRecDepth 100000
set_option maxHeartbeats 4000000
namespace Q
open PySem PySem.Spec PyProof.Rows L2
open PySem.W (Looks SortsAt AllAlike Sortable dataKind dataLt alike alikeAll EachIs)
section
variable {prog : Program} {w : World} {A : Around} {E : Value → Shared → Prop} {s : Shared}
open PySem.SeqAt in
end
end Q
set_option Elab.async false
set_option linter.all false
set_option maxRecDepth 100000
set_option maxHeartbeats 4000000
namespace Q
open PySem PySem.Spec PyProof.Rows L2
open PySem.W (Looks SortsAt AllAlike Sortable dataKind dataLt alike alikeAll EachIs)
section
variable {X : Cx} {c : Fx} {W : WX}
def gSorted : GC := fun env xs μ => match xs with
  | [x] => match sq env μ x with
    | some (.lst ds) => if sortable ds && decide (ds.length ≤ LIM) then .ok (.val (.lst (isort ds))) μ else .bad
    | _ => .bad
  | _ => .bad
end
end Q
set_option Elab.async false
set_option linter.all false
set_option maxRecDepth 100000
set_option maxHeartbeats 4000000
namespace Q
open PySem PySem.Spec PyProof.Rows L2
def spLaw (K : PySem.W.Frag) (run : RunF) : Sp := fun vs H Q _ => ∃ (a : Addr) (ns : List Int), vs = [.ref a] ∧ SqL K H a (ns.map V.int) ∧ run [.frz (ns.map D.int)] [] = .ok (.val (.bl true)) [] ∧ ∀ H', Q (.bl true) H'
theorem ints_dats {K : KW} {G : Hp} {L : List Addr} : ∀ ns : List Int, Dats K G L (ns.map V.int) (ns.map D.int)
  | [] => .nil
  | i :: ns => .cons (.int i) (ints_dats ns)
theorem spLaw_imp {K : KW} {C : Nat → Addr} {run : RunF} (vs : List V) (H : Hp) (Q : VK) (E : XK) (h : spLaw K run vs H Q E) : spD K C 1 run vs H Q E := by
  obtain ⟨a, ns, rfl, hs, hr, q⟩ := h
  obtain ⟨G, sG, nG, hG⟩ : ∃ G : Hp, Sub G H ∧ (∀ b o, G b = some o → TOk o) ∧ SqL K G a (ns.map V.int) := by
    rcases hs with hs | hs
    · refine ⟨fun b => if b = a then H b else none, fun b o e => ?_, fun b o e => ?_, .inl ?_⟩
      · dsimp only at e
        by_cases z : b = a
        · rw [if_pos z] at e; exact e
        · rw [if_neg z] at e; cases e
      · dsimp only at e
        by_cases z : b = a
        · rw [if_pos z, z] at e
          rcases hs with h | ⟨u, h⟩ <;> rw [h] at e <;> cases e <;> exact True.intro
        · rw [if_neg z] at e; cases e
      · rcases hs with h | ⟨u, h⟩
        · exact .inl (by show (if a = a then H a else none) = _; rw [if_pos rfl]; exact h)
        · exact .inr ⟨u, by show (if a = a then H a else none) = _; rw [if_pos rfl]; exact h⟩
    · exact ⟨fun _ => none, fun b o e => (by cases e), fun b o e => (by cases e), .inr hs⟩
  refine ⟨rfl, G, [], [.frz (ns.map D.int)], [], ⟨sG, List.nodup_nil, rfl, fun n b ds h1 _ => by simp at h1, fun _ _ h _ => h, Sub.refl, fun _ _ h => .inl h, nG⟩, .cons (.frz hG (ints_dats ns)) .nil, ?_⟩
  rw [hr]
  intro v H' G' _ m
  have m : Dat K G' [] v (.bl true) := m
  cases m
  exact q H'
theorem law_fn {P : Program} {w : World} {K : PySem.W.Frag} {mg : Str → Option Value} {C : Nat → Addr} {k : Nat} {x y : Str} {st : Stmt} {run : RunF} {f : Addr} {fd : FuncData} {oc : Value} {od : Option Addr} {osl : Array (Option Value)} (H : ∀ base, Cal P w K mg base C k x st [y] 1 run) (l : K.lookup f = some ⟨oc, od, .func fd, osl⟩) (hm : mg x = some (.ref f)) (hb : ∀ (s : Shared) (v : Value), BindsTo s fd ⟨[v], []⟩ [(y, v)]) :
    ∃ fd : FuncData, (∀ (s : Shared) (v : Value), BindsTo s fd ⟨[v], []⟩ [(y, v)]) ∧ ∀ base : Heap, K.In base → base.Ns mainGlobals mg → FnOk P w K mg base (L2.CX P w) k f fd [y] (spLaw K run) := by
  refine ⟨fd, hb, fun base _ _ => ?_⟩
  obtain ⟨f', fd', F, G, hm', _, _⟩ := (H base).ex
  rw [hm] at hm'
  injection hm' with e
  injection e with e
  subst e
  obtain ⟨oc', od', kV, dc, pm, an, cdv, ct, osl', e1, lk, _⟩ := F.ex
  rw [l] at lk
  injection lk with lk
  injection lk with _ _ lk _
  injection lk with lk
  subst lk
  exact G.imp fun vs H Q E h => spLaw_imp vs H Q E h
theorem exm_own {K : PySem.W.Frag} {S : Addr} (h1 : PySem.W.subIn K (.ref S) (.type "BaseException") = some true) (h2 : PySem.W.isClsIn K S = true) (h3 : PySem.W.typeIn K (.ref S) = some (.type "type")) (h4 : PySem.W.subIn K (.ref S) (.ref S) = some true) :
    PySem.W.exmOne K (.ref S) (.ref S) = some true := by
  have a1 : (PySem.W.subIn K (.ref S) (.type "BaseException") == some true) = true := by rw [h1] <;> rfl
  have a2 : ((PySem.W.clsIn K S).isSome && PySem.W.typeIn K (.ref S) == some (.type "type")) = true := by
    have q : (PySem.W.clsIn K S).isSome = true := h2
    rw [q, h3] <;> rfl
  show (if (PySem.W.subIn K (.ref S) (.type "BaseException") == some true) = true then (if ((PySem.W.clsIn K S).isSome && PySem.W.typeIn K (.ref S) == some (.type "type")) = true then PySem.W.subIn K (.ref S) (.ref S) else none) else none) = some true
  rw [if_pos a1, if_pos a2]
  exact h4
theorem walkQ {l : PySem.W.OpenLaw} {q : Program} {loose : List Str} {XP : (Str → Option Value) → Heap → Prop} {YP : World → Heap → Prop} {d : DefRec} {K : Params → PySem.W.Frag} {k : Nat} {y : Str} {run : RunF} (hn : l.most = some 63) (hdf : d.params.defaults = []) (hr : Room k callerA)
    (hY : ∀ (w : World) (h : Heap), YP w h → (K w.params).In h)
    (F : ∀ (w : World) (mg : Str → Option Value) (fa : Addr) (h : Heap), (K w.params).In h → h.Ns mainGlobals mg → mg d.name = some (.ref fa) →
      ∃ fd : FuncData, (∀ (s : Shared) (u : Value), BindsTo s fd ⟨[u], []⟩ [(y, u)]) ∧ ∀ base : Heap, (K w.params).In base → base.Ns mainGlobals mg → FnOk l.prog w (K w.params) mg base (L2.CX l.prog w) k fa fd [y] (spLaw (K w.params) run))
    (T : ∀ ns : List Int, ns.length ≤ 63 → (∀ z ∈ ns, Builtin.Int.intBits z ≤ 1048576) → run [.frz (ns.map D.int)] [] = .ok (.val (.bl true)) []) :
    PySem.W.WalkO q loose XP YP l.row.toRowW d [] (fun f vs => PySem.call f vs) :=
  L2.walk_ofB (n := 63) (k := k) (x := y) (CX := fun w => L2.CX l.prog w) (sp := fun w => spLaw (K w.params) run) hn (by decide) hdf hr hY F (fun _ _ a ns hl hb _ hS => ⟨a, ns, rfl, hS, T ns hl hb, fun _ => rfl⟩) fun w H s e s' h => by
    obtain ⟨_, _, _, _, _, _, _, _, _, _, _, _, z⟩ := h
    exact z
end Q
set_option Elab.async false
set_option linter.all false
set_option maxRecDepth 100000
set_option maxHeartbeats 4000000
namespace Q
open PySem PyProof.Rows L2
section
variable {P : Program} {w : World} {A : Around} {E : Value → Shared → Prop}
def NoCls (P : Program) (w : World) (n : Nat) (s : Shared) (v : Value) : Prop := ∀ (A : Around) (E : Value → Shared → Prop) (Q : Bool → Shared → Prop), Q false s → wpAny (model P w) A (ofAClassStatement n v) Q E s
def ByVal (P : Program) (w : World) (n : Nat) (s : Shared) (v : Value) : Prop := ∀ (A : Around) (E : Value → Shared → Prop) (Q : Bool → Shared → Prop), (∀ b, Q b s) → wpAny (model P w) A (hashByValue n v) Q E s
theorem NoCls.flat {n : Nat} {s : Shared} {v : Value} (h : ofAClassStatement n v = pure false) : NoCls P w n s v := fun A E Q q => by rw [h]; exact wpAny_pure q
theorem ByVal.flat {n : Nat} {s : Shared} {v : Value} {b : Bool} (h : hashByValue n v = pure b) : ByVal P w n s v := fun A E Q q => by rw [h]; exact wpAny_pure (q b)
theorem NoCls.tup {n m : Nat} {s : Shared} {a : Addr} {o : Obj} {vs : Array Value} (ho : s.heap.get? a = some o) (hc : o.cls = .type "tuple") (hd : o.data = .seq vs m) (hv : ∀ v ∈ vs.toList, NoCls P w n s v) : NoCls P w (n + 1) s (.ref a) := fun A E Q q => by
  unfold ofAClassStatement
  have te : (("tuple" : String) == "tuple") = true := by decide
  refine wpAny_bind (wpAny_typeOf (T := "tuple") ⟨o, ho, hc⟩ ?_); dsimp only
  simp only [te, if_true, Bool.not_true, Bool.false_eq_true, if_false]
  try refine wpAny_bind (wpAny_pure ?_); try simp only [Bool.not_true, Bool.false_eq_true, if_false]
  show wpAny _ _ (seqItems? (.ref a) >>= _) _ _ s
  refine wpAny_bind (wpAny_seqItems ho hd ?_); dsimp only; refine wpAny_bind ?_
  show wpAny _ _ (forIn vs _ _) _ _ s
  rw [← Array.forIn_toList]
  refine wpAny_forIn_list _ (fun rest r s1 => s1 = s ∧ r.1 = none ∧ ∀ v ∈ rest, NoCls P w n s v) _ (fun v rest r s1 ⟨e1, e2, al⟩ => ?_) (fun r s1 ⟨e1, e2, _⟩ => ?_) _ _ ⟨rfl, rfl, hv⟩
  · subst e1
    refine wpAny_bind (al v List.mem_cons_self _ _ _ ?_); simp only [Bool.false_eq_true, if_false]
    exact wpAny_pure ⟨rfl, rfl, fun u hu => al u (List.mem_cons_of_mem _ hu)⟩
  · subst e1
    obtain ⟨r1, r2⟩ := r
    cases (show r1 = none from e2)
    exact wpAny_pure q
theorem ByVal.tup {n m : Nat} {s : Shared} {a : Addr} {o : Obj} {vs : Array Value} (ho : s.heap.get? a = some o) (hc : o.cls = .type "tuple") (hd : o.data = .seq vs m) (hv : ∀ v ∈ vs.toList, ByVal P w n s v) : ByVal P w (n + 1) s (.ref a) := fun A E Q q => by
  unfold hashByValue
  refine wpAny_bind (wpAny_specialOf (T := "tuple") ⟨o, ho, hc⟩ F.slot_tuple_hash.lookup ?_)
  show wpAny _ _ (seqItems? (.ref a) >>= _) _ _ s
  refine wpAny_bind (wpAny_seqItems ho hd ?_); refine wpAny_bind ?_
  show wpAny _ _ (forIn vs _ _) _ _ s
  rw [← Array.forIn_toList]
  refine wpAny_forIn_list _ (fun rest r s1 => s1 = s ∧ r.1 = none ∧ ∀ v ∈ rest, ByVal P w n s v) _ (fun v rest r s1 ⟨e1, e2, al⟩ => ?_) (fun r s1 ⟨e1, e2, _⟩ => ?_) _ _ ⟨rfl, rfl, hv⟩
  · subst e1
    refine wpAny_bind (al v List.mem_cons_self _ _ _ fun b => ?_)
    cases b with
    | true => simp only [Bool.not_true, Bool.false_eq_true, if_false]; exact wpAny_pure ⟨rfl, rfl, fun u hu => al u (List.mem_cons_of_mem _ hu)⟩
    | false => simp only [Bool.not_false, if_true]; exact wpAny_pure (wpAny_pure (q false))
  · subst e1
    obtain ⟨r1, r2⟩ := r
    cases (show r1 = none from e2)
    exact wpAny_pure (q true)
mutual
theorem noCls_key : ∀ (k : NestedKey) (v : Value) (n : Nat) (s : Shared), NestedIs s.heap k v → k.depth ≤ n → NoCls P w n s v
  | .none, _, n, s, x, _ => by cases x; exact .flat (by cases n <;> rfl)
  | .num i, _, n, s, x, _ => by cases x <;> exact .flat (by cases n <;> rfl)
  | .text y, _, n, s, x, _ => by cases x; exact .flat (by cases n <;> rfl)
  | .tup ks, _, n, s, x, hn => by
    cases x with
    | tup hg hc hd hk =>
      obtain ⟨j, rfl⟩ : ∃ j, n = j + 1 := ⟨n - 1, by simp only [NestedKey.depth] at hn; omega⟩
      exact .tup hg hc hd (noCls_keys ks _ j s hk (by simp only [NestedKey.depth] at hn; omega))
theorem noCls_keys : ∀ (ks : List NestedKey) (vs : List Value) (n : Nat) (s : Shared), NestedAll s.heap ks vs → NestedKey.depthAll ks ≤ n → ∀ v ∈ vs, NoCls P w n s v
  | [], _, n, s, x, _, v, hv => by cases x; cases hv
  | k :: ks, _, n, s, x, hn, v, hv => by
    cases x with
    | cons x1 x2 =>
      simp only [NestedKey.depthAll] at hn
      rcases List.mem_cons.mp hv with e | hv
      · exact e ▸ noCls_key k _ n s x1 (by omega)
      · exact noCls_keys ks _ n s x2 (by omega) v hv
end
mutual
theorem byVal_key : ∀ (k : NestedKey) (v : Value) (n : Nat) (s : Shared), NestedIs s.heap k v → ByVal P w n s v
  | .none, _, n, s, x => by cases x; exact .flat (b := true) (by cases n <;> rfl)
  | .num i, _, n, s, x => by cases x <;> exact .flat (b := true) (by cases n <;> rfl)
  | .text y, _, n, s, x => by cases x; exact .flat (b := false) (by cases n <;> rfl)
  | .tup ks, _, 0, s, x => by cases x; exact .flat (b := false) rfl
  | .tup ks, _, n + 1, s, x => by
    cases x with
    | tup hg hc hd hk => exact .tup hg hc hd (byVal_keys ks _ n s hk)
theorem byVal_keys : ∀ (ks : List NestedKey) (vs : List Value) (n : Nat) (s : Shared), NestedAll s.heap ks vs → ∀ v ∈ vs, ByVal P w n s v
  | [], _, n, s, x, v, hv => by cases x; cases hv
  | k :: ks, _, n, s, x, v, hv => by
    cases x with
    | cons x1 x2 =>
      rcases List.mem_cons.mp hv with e | hv
      · exact e ▸ byVal_key k _ n s x1
      · exact byVal_keys ks _ n s x2 v hv
end
structure Tk (h : Heap) (k : NestedKey) (a : Addr) : Prop where
  is : NestedIs h k (.ref a)
  dp : k.depth ≤ 8
theorem Tk.inj {h : Heap} {x y : NestedKey} {a : Addr} (hx : Tk h x a) (hy : Tk h y a) : x = y := NestedIs.inj _ _ _ hx.is hy.is
theorem Tk.keep {h h' : Heap} {k : NestedKey} {a : Addr} (x : Tk h k a) (hk : ∀ b o, h.get? b = some o → h'.get? b = some o) : Tk h' k a := ⟨x.is.at (fun b o _ _ e _ => hk b o e), x.dp⟩
theorem Tk.same {h h' : Heap} {k : NestedKey} {a b : Addr} {o : Obj} {es : Array (Int × Value)} {ep : Nat} {t : SetTable} (x : Tk h k b) (ho : h.get? a = some o) (hd : o.data = .set es ep t) (hs : Heap.SameBut a h h') : Tk h' k b :=
  ⟨x.is.at fun c oc vs n e1 e2 => (hs.2 c fun z => by rw [z, ho] at e1; cases e1; rw [hd] at e2; cases e2).trans e1, x.dp⟩
theorem Tk.eq {s : Shared} {x y : NestedKey} {a b : Addr} {Q : Bool → Shared → Prop} (hu : A.units + 8 < cLine) (hx : Tk s.heap x a) (hy : Tk s.heap y b) (q : Q (decide (x = y)) s) : wpAny (model P w) A (eqBool (.ref a) (.ref b)) Q E s :=
  (nestedKind P w).eqBool hu ⟨hx.is, hx.dp⟩ ⟨hy.is, hy.dp⟩ q
theorem Tk.hash {s : Shared} {k : NestedKey} {a : Addr} {Q : Int → Shared → Prop} (hu : A.units + 8 < cLine) (hx : Tk s.heap k a) (q : Q (k.hash w) { s with toks := s.toks + k.draws }) : wpAny (model P w) A (pyHash (.ref a)) Q E s :=
  (nestedKind P w).pyHash hu ⟨hx.is, hx.dp⟩ q
theorem Tk.seen {s : Shared} {k : NestedKey} {b : Addr} {Q : Bool → Shared → Prop} (hk : Tk s.heap k b) {ys : List Value} (hy : ∀ y ∈ ys, ∃ j c, y = Value.ref c ∧ Tk s.heap j c) (q : Q false s) :
    wpAny (model P w) A (searchCouldBeSeen (.ref b) ys) Q E s := by
  unfold searchCouldBeSeen; refine wpAny_bind ?_
  refine wpAny_forIn_list _ (fun rest r s1 => s1 = s ∧ r.1 = none ∧ ∀ y ∈ rest, ∃ j c, y = Value.ref c ∧ Tk s.heap j c) _ (fun v rest r s1 ⟨e1, e2, al⟩ => ?_) (fun r s1 ⟨e1, e2, _⟩ => ?_) _ _ ⟨rfl, rfl, hy⟩
  · subst e1
    obtain ⟨j, c, rfl, hc⟩ := al v List.mem_cons_self
    have go : ∀ y ∈ rest, ∃ j c, y = Value.ref c ∧ Tk s1.heap j c := fun u hu => al u (List.mem_cons_of_mem _ hu)
    dsimp only
    by_cases hv : (b == c || (carriedByValue (.ref b) && carriedByValue (.ref c))) = true
    · exact wp_if_pos hv (wpAny_pure ⟨rfl, rfl, go⟩)
    · refine wp_if_neg hv (wpAny_bind ((nestedKind P w).quiet ⟨hk.is, hk.dp⟩ ?_)); simp only [Bool.not_true, Bool.false_eq_true, if_false]
      refine wpAny_bind ((nestedKind P w).quiet ⟨hc.is, hc.dp⟩ ?_); simp only [Bool.not_true, Bool.false_eq_true, if_false]
      refine wpAny_bind (noCls_key k _ 8 s1 hk.is hk.dp _ _ _ ?_); simp only [Bool.false_eq_true, if_false]
      refine wpAny_bind (noCls_key j _ 8 s1 hc.is hc.dp _ _ _ ?_); simp only [Bool.false_eq_true, if_false]
      exact wpAny_pure ⟨rfl, rfl, go⟩
  · subst e1
    obtain ⟨r1, r2⟩ := r
    cases (show r1 = none from e2)
    exact wpAny_pure q
end
end Q
set_option Elab.async false
set_option linter.all false
set_option maxRecDepth 100000
set_option maxHeartbeats 4000000
namespace Q
open PySem PyProof.Rows L2
def rowN (w : World) (p : Addr × NestedKey) : Int × Value := (p.2.hash w, .ref p.1)
def hsN (w : World) (L : List (Addr × NestedKey)) : List Int := L.map fun p => p.2.hash w
structure SetN (w : World) (h : Heap) (a : Addr) (L : List (Addr × NestedKey)) (es : Array (Int × Value)) (ep : Nat) (t : SetTable) : Prop where
  ob : ∃ o, h.get? a = some o ∧ o.ExactSet ∧ o.data = .set es ep t
  row : es.toList = L.map (rowN w)
  tab : TabOk t (hsN w L)
  nd : (L.map (·.2)).Nodup
  key : ∀ p ∈ L, Tk h p.2 p.1
  led : w.params.followText "set-order" = true ∨ t.led = true
  room : L.length * 5 < t.mask * 3
  few : L.length < 76
theorem hsN_len (w : World) (L : List (Addr × NestedKey)) : (hsN w L).length = L.length := List.length_map ..
theorem row_len {w : World} {L : List (Addr × NestedKey)} {es : Array (Int × Value)} (r : es.toList = L.map (rowN w)) : es.size = L.length := by
  rw [← Array.length_toList, r, List.length_map]
theorem row_at {w : World} {L : List (Addr × NestedKey)} {es : Array (Int × Value)} (r : es.toList = L.map (rowN w)) {i : Nat} {p : Addr × NestedKey} (h : L[i]? = some p) : es[i]? = some (p.2.hash w, .ref p.1) := by
  rw [← Array.getElem?_toList, r, List.getElem?_map, h]; rfl
theorem tab_fits {t : SetTable} {hs : List Int} {n : Nat} (T : TabOk t hs) (e : n = hs.length) (l : n ≤ t.mask) : t.fits n = true := by
  have z := T.sz
  have d : t.dummies.size = 0 := by rw [T.dm]; rfl
  simp only [SetTable.fits, SetTable.fill, Bool.and_eq_true, beq_iff_eq, decide_eq_true_eq, d]
  exact ⟨by omega, by omega⟩
section
variable {P : Program} {w : World} {A : Around} {E : Value → Shared → Prop} {s : Shared} {a : Addr} {L : List (Addr × NestedKey)} {es : Array (Int × Value)} {ep : Nat} {t : SetTable}
theorem SetN.size {h : Heap} (R : SetN w h a L es ep t) : es.size = L.length := row_len R.row
theorem SetN.fits {h : Heap} (R : SetN w h a L es ep t) : t.fits es.size = true :=
  tab_fits R.tab (by rw [hsN_len]; exact R.size) (by have := R.size; have := R.room; omega)
abbrev prb (t : SetTable) (h : Int) (c : Nat) : SetTable.Probe := nth t.mask (runAt t.mask (SetTable.bits h % (t.mask + 1)) (SetTable.bits h)) c
theorem prb_dummy (t : SetTable) (h : Int) (c : Nat) : (prb t h c).dummy = none := by
  have k : ∀ (n : Nat) (p : SetTable.Probe), p.dummy = none → (nth t.mask p n).dummy = none := fun n => by
    induction n with
    | zero => exact fun _ e => e
    | succ n ih => exact fun p e => ih (adv t.mask p) (by unfold adv; split <;> exact e)
  exact k c _ rfl
theorem prb_add (t : SetTable) (h : Int) (c q : Nat) : nth t.mask (prb t h c) q = prb t h (c + q) := (nth_add t.mask c _ q).symm
theorem prb_j (t : SetTable) (h : Int) (c q : Nat) : (nth t.mask (prb t h c) q).j = way t.mask h (c + q) := congrArg SetTable.Probe.j (prb_add t h c q)
structure Seek (w : World) (s : Shared) (L : List (Addr × NestedKey)) (t : SetTable) (x : Addr) (k : NestedKey) (K : Nat) (Q : SetFound → Shared → Prop) : Prop where
  kx : Tk s.heap k x
  lt : K < 10 * SetTable.turns t.mask
  at' : way t.mask (k.hash w) K ∉ t.place.toList
  ahead : ∀ c, c < K → way t.mask (k.hash w) c ∈ t.place.toList
  yes : k ∈ L.map (·.2) → Q (.there none) s
  no : k ∉ L.map (·.2) → Q (.free (way t.mask (k.hash w) K) false) s
theorem hash_at {h : Heap} (R : SetN w h a L es ep t) {i : Nat} {p : Addr × NestedKey} (hp : L[i]? = some p) : (es[i]?.map (·.1)).getD 0 = p.2.hash w := by
  rw [row_at R.row hp]; rfl
theorem seek_from (R : SetN w s.heap a L es ep t) {x : Addr} {k : NestedKey} (hu : A.units + 8 < cLine) {K : Nat} {Q : SetFound → Shared → Prop} (Z : Seek w s L t x k K Q) :
    ∀ (f c : Nat) (stand : Option SetTable.Probe), stand.getD (t.probeStart (k.hash w)) = prb t (k.hash w) c → c ≤ K → K - c < f →
      (∀ (i : Nat) p, L[i]? = some p → p.2 = k → ∃ c', c ≤ c' ∧ c' < K ∧ t.place.toList[i]? = some (way t.mask (k.hash w) c')) →
      wpAny (model P w) A (setSearchFrom a (.ref x) (k.hash w) true f stand) Q E s
  | 0, c, stand, _, _, hf, _ => by omega
  | f + 1, c, stand, hst, hc, hf, hre => by
    obtain ⟨o, ho, hex, hd⟩ := R.ob
    have ng : ¬ t.gaveWay = true := by unfold SetTable.gaveWay; rw [mask_odd R.tab.mok]; decide
    rw [setSearchFrom_succ]
    refine wpAny_bind (wpAny_setState_of ho hd R.fits ?_); dsimp only
    refine wp_if_neg ng ?_
    try refine wpAny_bind (wpAny_pure ?_)
    have Kc : c + (K - c) = K := by omega
    rcases go_spec t R.tab.ris R.tab.dm (fun i => (es[i]?.map (·.1)).getD 0) (k.hash w) (10 * SetTable.turns t.mask) (K - c) (prb t (k.hash w) c) (prb_dummy _ _ _) (by have := Z.lt; omega)
      (fun q hq => by rw [prb_j]; exact Z.ahead (c + q) (by omega)) (by rw [prb_j, Kc]; exact Z.at') with ⟨q, i, hq, hi, hh, hno, hpr⟩ | ⟨hno, hpr⟩
    · rw [prb_j] at hi hpr; rw [prb_add] at hpr
      have pr : t.probe (fun i => (es[i]?.map (·.1)).getD 0) (k.hash w) (stand.getD (t.probeStart (k.hash w))) = some (.candidate (way t.mask (k.hash w) (c + q)) i (prb t (k.hash w) (c + (q + 1)))) := by rw [hst]; exact hpr
      rw [pr]; dsimp only
      have il : i < L.length := by
        have h1 := (List.getElem?_eq_some_iff.mp hi).1
        have h2 := R.tab.sz
        rw [hsN_len] at h2; rw [Array.length_toList] at h1; omega
      obtain ⟨p, hp⟩ : ∃ p, L[i]? = some p := ⟨_, List.getElem?_eq_getElem il⟩
      have pm := List.mem_of_getElem? hp
      have live : t.slot (way t.mask (k.hash w) (c + q)) = .live i := slot_live R.tab.ris hi
      have rest : wpAny (model P w) A (searchRest a (.ref x) (k.hash w) true f es t (way t.mask (k.hash w) (c + q)) i (prb t (k.hash w) (c + (q + 1)))) Q E s := by
        unfold searchRest
        rw [row_at R.row hp]; dsimp only
        refine wpAny_bind (wpAny_holding (Tk.eq hu (R.key p pm) Z.kx ?_))
        refine wpAny_bind (wpAny_setState_of ho hd R.fits ?_); dsimp only
        by_cases hkk : p.2 = k
        · exact wp_if_pos (by simp [hkk]) (wpAny_pure (Z.yes (List.mem_map.mpr ⟨p, pm, hkk⟩)))
        · refine wp_if_neg (by simp [hkk]) ?_
          try refine wpAny_bind (wpAny_pure ?_)
          rw [sameMem]; dsimp only
          simp only [if_true, live, row_at R.row hp]
          refine wpAny_bind (wpAny_isSame_ref_self (wpAny_bind (wpAny_pure ?_))); simp only [if_true]
          refine wp_if_neg (by simp [hkk]) (seek_from R hu Z f (c + (q + 1)) _ rfl (by omega) (by omega) fun i0 p0 h0 hk0 => ?_)
          obtain ⟨c', a1, a2, a3⟩ := hre i0 p0 h0 hk0
          refine ⟨c', ?_, a2, a3⟩
          rcases Nat.lt_trichotomy c' (c + q) with z | z | z
          · have e : c + (c' - c) = c' := by omega
            exact absurd ((hash_at R h0).trans (congrArg (NestedKey.hash w) hk0)) (hno (c' - c) i0 (by omega) (by rw [prb_j, e]; exact a3))
          · rw [z] at a3
            have s0 := slot_live R.tab.ris a3
            rw [live] at s0; injection s0 with s0
            rw [← s0, hp] at h0
            exact absurd ((congrArg Prod.snd (Option.some.inj h0)).trans hk0) hkk
          · omega
      by_cases hl : t.led = true
      · refine wp_if_neg (by simp [hl]) ?_
        try refine wpAny_bind (wpAny_pure ?_)
        exact rest
      · refine wp_if_pos (by simp [hl]) (wpAny_bind (Z.kx.seen (fun y hy => ?_) ?_))
        · obtain ⟨e, he, ee⟩ := List.mem_map.mp hy
          have he : e ∈ es ∧ e.1 = k.hash w := by simpa using he
          have he2 : e ∈ L.map (rowN w) := by rw [← R.row]; simpa using he.1
          obtain ⟨p2, hp2, e2⟩ := List.mem_map.mp he2
          exact ⟨p2.2, p2.1, by rw [← ee, ← e2]; rfl, R.key p2 hp2⟩
        · refine wp_if_neg (by decide) ?_
          try refine wpAny_bind (wpAny_pure ?_)
          exact rest
    · rw [prb_j, Kc] at hpr
      have pr : t.probe (fun i => (es[i]?.map (·.1)).getD 0) (k.hash w) (stand.getD (t.probeStart (k.hash w))) = some (.empty (way t.mask (k.hash w) K) none) := by rw [hst]; exact hpr
      rw [pr]; dsimp only
      refine wpAny_pure (Z.no fun hm => ?_)
      obtain ⟨p0, h0, hk0⟩ := List.mem_map.mp hm
      obtain ⟨i0, hi0, e0⟩ := List.getElem_of_mem h0
      have h00 : L[i0]? = some p0 := by rw [List.getElem?_eq_getElem hi0, e0]
      obtain ⟨c', a1, a2, a3⟩ := hre i0 p0 h00 hk0
      have e : c + (c' - c) = c' := by omega
      exact hno (c' - c) i0 (by omega) (by rw [prb_j, e]; exact a3) ((hash_at R h00).trans (congrArg (NestedKey.hash w) hk0))
theorem seek (R : SetN w s.heap a L es ep t) {x : Addr} {k : NestedKey} (kx : Tk s.heap k x) (hu : A.units + 8 < cLine) {Q : SetFound → Shared → Prop} (yes : k ∈ L.map (·.2) → Q (.there none) s)
    (no : ∀ K, k ∉ L.map (·.2) → way t.mask (k.hash w) K ∉ t.place.toList → (∀ c, c < K → way t.mask (k.hash w) c ∈ t.place.toList) → Q (.free (way t.mask (k.hash w) K) false) s) :
    wpAny (model P w) A (setSearch a (.ref x) (k.hash w) true) Q E s := by
  have hroom := R.room
  obtain ⟨K, h1, h2, h3⟩ := R.tab.first (by rw [hsN_len]; omega) (k.hash w)
  have big : 10 * SetTable.turns t.mask ≤ 1420 := by
    unfold SetTable.turns
    rcases R.tab.mok with e | e | e <;> omega
  unfold setSearch
  refine seek_from R hu ⟨kx, h1, h2, h3, yes, fun hn => no K hn h2 h3⟩ 100000 0 none rfl (Nat.zero_le _) (by omega) fun i p hp hk => ?_
  have hi : (hsN w L)[i]? = some (k.hash w) := by rw [hsN, List.getElem?_map, hp, ← hk]; rfl
  have il : i < t.place.toList.length := by
    have q := (List.getElem?_eq_some_iff.mp hp).1
    have z := R.tab.sz
    rw [hsN_len] at z; rw [Array.length_toList]; omega
  obtain ⟨c, hc, e⟩ := R.tab.before h2 hi (List.getElem?_eq_getElem il)
  exact ⟨c, Nat.zero_le _, hc, by rw [List.getElem?_eq_getElem il, e]⟩
end
end Q
set_option Elab.async false
set_option linter.all false
set_option maxRecDepth 100000
set_option maxHeartbeats 4000000
namespace Q
open PySem PyProof.Rows L2
theorem pick_all {α : Type} (L : List α) : (List.range L.length).filterMap (fun i => L[i]?) = L := by
  have go : ∀ n, n ≤ L.length → (List.range n).filterMap (fun i => L[i]?) = L.take n := fun n => by
    induction n with
    | zero => exact fun _ => rfl
    | succ n ih =>
      intro hn
      rw [List.range_succ, List.filterMap_append, ih (by omega), List.take_succ, List.getElem?_eq_getElem (show n < L.length by omega), List.filterMap_cons_some (List.getElem?_eq_getElem (show n < L.length by omega))]
      rfl
  rw [go _ (Nat.le_refl _), List.take_length]
theorem rows_by {w : World} (L : List (Addr × NestedKey)) (es : Array (Int × Value)) (order : Array Nat) (hr : es.toList = L.map (rowN w)) (hp : order.toList.Perm (List.range L.length)) :
    ∃ L2, (order.filterMap (es[·]?)).toList = L2.map (rowN w) ∧ L2.Perm L ∧ hsN w L2 = order.toList.map fun i => (es.map (·.1)).getD i 0 := by
  have lt : ∀ i ∈ order.toList, i < L.length := fun i hi => List.mem_range.mp (hp.mem_iff.mp hi)
  have go : ∀ l : List Nat, (∀ i ∈ l, i < L.length) → l.filterMap (fun i => es[i]?) = (l.filterMap fun i => L[i]?).map (rowN w) ∧ hsN w (l.filterMap fun i => L[i]?) = l.map fun i => (es.map (·.1)).getD i 0 := fun l => by
    induction l with
    | nil => exact fun _ => ⟨rfl, rfl⟩
    | cons i l ih =>
      intro hl
      have hi := List.getElem?_eq_getElem (hl i List.mem_cons_self)
      have he := row_at hr hi
      obtain ⟨h1, h2⟩ := ih fun j hj => hl j (List.mem_cons_of_mem _ hj)
      have e4 : (es.map (·.1)).getD i 0 = (L[i]'(hl i List.mem_cons_self)).2.hash w := by
        simp only [Array.getD_eq_getD_getElem?, Array.getElem?_map, he, Option.map_some, Option.getD_some]
      constructor
      · rw [List.filterMap_cons_some he, List.filterMap_cons_some hi, h1]; rfl
      · rw [List.filterMap_cons_some hi, List.map_cons, e4, ← h2]; rfl
  obtain ⟨h1, h2⟩ := go order.toList lt
  refine ⟨order.toList.filterMap fun i => L[i]?, by rw [Array.toList_filterMap]; exact h1, ?_, h2⟩
  have := hp.filterMap fun i => L[i]?
  rwa [pick_all] at this
theorem put_in {α : Type} (L : List α) (p : Nat) (x : α) : (L.take p ++ x :: L.drop p).Perm (x :: L) := by
  have h : (L.take p ++ x :: L.drop p).Perm (x :: (L.take p ++ L.drop p)) := List.perm_middle
  rwa [List.take_append_drop] at h
section
variable {P : Program} {w : World} {A : Around} {E : Value → Shared → Prop} {s : Shared} {a : Addr} {L : List (Addr × NestedKey)} {es : Array (Int × Value)} {ep : Nat} {t : SetTable}
theorem relayN {o : Obj} (ho : s.heap.get? a = some o) (hex : o.ExactSet) (hd : o.data = .set es ep t) (row : es.toList = L.map (rowN w)) (T0 : TabOk t (hsN w L)) (hfl : L.length ≤ t.mask)
    (nd : (L.map (·.2)).Nodup) (key : ∀ p ∈ L, Tk s.heap p.2 p.1) (ld : w.params.followText "set-order" = true ∨ t.led = true) (few : L.length < 76) {wanted M : Nat}
    (hw : SetTable.sizeAbove wanted - 1 = M) (hM : MaskOk M) (hw2 : SetTable.sizeAbove wanted ≤ 128) (hn : L.length * 5 < M * 3) {Q : Unit → Shared → Prop}
    (q : ∀ h' L' es' ep' t', Heap.SameBut a s.heap h' → SetN w h' a L' es' ep' t' → L'.Perm L → Q () { s with heap := h' }) : wpAny (model P w) A (setRelay a wanted) Q E s := by
  have hz := row_len row
  obtain ⟨t', order, e, hp, T, em, el, ep', ed⟩ := relaid_ok t (hs := es.map (·.1)) (wanted := wanted) hw hM (by rw [Array.size_map, hz]; omega)
  rw [Array.size_map, hz] at hp
  obtain ⟨L2, r1, r2, r3⟩ := rows_by L es order row hp
  rw [← r3] at T
  have hs2 : (order.filterMap (es[·]?)).size = es.size := by rw [row_len r1, r2.length_eq, hz]
  rw [setRelay_eq]
  refine wpAny_bind (wpAny_setState_of ho hd (tab_fits T0 (by rw [hsN_len, hz]) (by omega)) ?_); dsimp only
  refine wp_if_neg (by rw [sizeLine_eq]; omega) ?_
  try refine wpAny_bind (wpAny_pure ?_)
  rw [e]; dsimp only
  refine wpAny_bind (wp_if_neg (by rw [hs2]; simp) ?_)
  try refine wpAny_bind (wpAny_pure ?_)
  refine wpAny_pure ?_; dsimp only
  refine wpAny_storeSet_of ho hd ?_ (by rw [hs2, hz, sizeLine_eq]; omega)
  have sb : Heap.SameBut a s.heap (s.heap.update a (Obj.putSet (order.filterMap (es[·]?)) t')) := Heap.SameBut.update ..
  refine q _ L2 (order.filterMap (es[·]?)) (ep + 1) t' sb ⟨⟨_, store_at ho hd, ⟨hex.1, hex.2.1, hex.2.2⟩, rfl⟩, r1, T, (r2.map (·.2)).nodup_iff.mpr nd, fun p hpm => (key p (r2.mem_iff.mp hpm)).same ho hd sb, by rw [el]; exact ld, by rw [r2.length_eq, em]; exact hn, by rw [r2.length_eq]; exact few⟩ r2
theorem addN (R : SetN w s.heap a L es ep t) {x : Addr} {k : NestedKey} (kx : Tk s.heap k x) (hu : A.units + 8 < cLine) (hfew : L.length + 1 < 76) {Q : Bool → Shared → Prop}
    (q : ∀ b h' L' es' ep' t', Heap.SameBut a s.heap h' → SetN w h' a L' es' ep' t' → (k ∈ L.map (·.2) → L' = L) → (k ∉ L.map (·.2) → L'.Perm ((x, k) :: L)) → Q b { s with heap := h' }) :
    wpAny (model P w) A (setAddHashed a (.ref x) (k.hash w)) Q E s := by
  obtain ⟨o, ho, hex, hd⟩ := R.ob
  have hz := R.size
  have hroom := R.room
  unfold setAddHashed
  refine wpAny_holding ?_
  rw [show (100000 : Nat) = 99999 + 1 from rfl, setAddHashedIn_succ]
  refine wpAny_bind (wpAny_setState_of ho hd R.fits ?_); dsimp only
  refine wp_if_neg (by simp [byScan, Value.scannable]) ?_
  try refine wpAny_bind (wpAny_pure ?_)
  refine wpAny_bind (seek R kx hu (fun hm => wpAny_pure (q false s.heap L es ep t (Heap.SameBut.refl a s.heap) R (fun _ => rfl) fun z => absurd hm z)) fun K hm hK hb => ?_)
  dsimp only
  refine wpAny_bind (wpAny_setState_of ho hd R.fits ?_); dsimp only
  obtain ⟨q1, q2, q3, q4, q5, q6, q7, q8, q9⟩ := R.tab.put hK hb
  generalize hpt : t.put (way t.mask (k.hash w) K) = pt at q1 q3 q4 q5 q6 q7 q8 q9 ⊢
  obtain ⟨t1, p⟩ := pt
  dsimp only at q1 q3 q4 q5 q6 q7 q8 q9 ⊢
  subst q1
  -- the table by its value or not
  have cont : ∀ (t2 : SetTable), t2.place = t1.place → t2.dummies = t1.dummies → t2.mask = t1.mask → t2.led = t1.led → wpAny (model P w) A (do
      storeSet a (SetTable.insertAt es (SetTable.below t.place (way t.mask (k.hash w) K)) (k.hash w, .ref x)) t2
      if !false && t2.tooFull then setRelay a (SetTable.grown (es.size + 1))
      return true) Q E s := fun t2 f1 f2 f3 f4 => by
    have T2 : TabOk t2 (hsN w (L.take (SetTable.below t.place (way t.mask (k.hash w) K)) ++ (x, k) :: L.drop (SetTable.below t.place (way t.mask (k.hash w) K)))) := by
      have e : hsN w (L.take (SetTable.below t.place (way t.mask (k.hash w) K)) ++ (x, k) :: L.drop (SetTable.below t.place (way t.mask (k.hash w) K))) = (hsN w L).take (SetTable.below t.place (way t.mask (k.hash w) K)) ++ k.hash w :: (hsN w L).drop (SetTable.below t.place (way t.mask (k.hash w) K)) := by
        simp only [hsN, List.map_append, List.map_cons, List.map_take, List.map_drop]
      rw [e]
      exact ⟨by rw [f1]; exact q3.ris, by rw [f2]; exact q3.dm, by rw [f1]; exact q3.sz, by rw [f3]; exact q3.mok, by rw [f1, f3]; exact q3.bd, by rw [f1, f3]; exact q3.reach⟩
    have fl : t2.fill = L.length + 1 := by
      have : t2.fill = t1.fill := by unfold SetTable.fill; rw [f1, f2]
      rw [this, q9, hsN_len]
    have hin : (SetTable.insertAt es (SetTable.below t.place (way t.mask (k.hash w) K)) (k.hash w, .ref x)).toList = (L.take (SetTable.below t.place (way t.mask (k.hash w) K)) ++ (x, k) :: L.drop (SetTable.below t.place (way t.mask (k.hash w) K))).map (rowN w) := by
      rw [SetTable.toList_insertAt, R.row, List.map_append, List.map_cons, List.map_take, List.map_drop]; rfl
    generalize SetTable.below t.place (way t.mask (k.hash w) K) = p at T2 hin ⊢
    have pm := put_in L p (x, k)
    generalize L.take p ++ (x, k) :: L.drop p = L1 at pm T2 hin
    have len1 : L1.length = L.length + 1 := pm.length_eq
    have size1 := row_len hin
    have nd1 : (L1.map (·.2)).Nodup := (pm.map (·.2)).nodup_iff.mpr (List.nodup_cons.mpr ⟨hm, R.nd⟩)
    generalize SetTable.insertAt es p (k.hash w, .ref x) = es1 at hin size1 ⊢
    refine wpAny_bind (wpAny_storeSet_of ho hd ?_ (by rw [size1, len1, sizeLine_eq]; omega))
    have sb : Heap.SameBut a s.heap (s.heap.update a (Obj.putSet es1 t2)) := Heap.SameBut.update ..
    have ho1 := store_at (es' := es1) (t' := t2) ho hd
    generalize s.heap.update a (Obj.putSet es1 t2) = h1 at sb ho1 ⊢
    have key1 : ∀ p ∈ L1, Tk h1 p.2 p.1 := fun p hp => by
      rcases List.mem_cons.mp (pm.mem_iff.mp hp) with e | hp
      · rw [e]; exact kx.same ho hd sb
      · exact (R.key p hp).same ho hd sb
    have ld1 : w.params.followText "set-order" = true ∨ t2.led = true := by rw [f4, q5]; exact R.led
    have m1 : t2.mask = t.mask := f3.trans q4
    by_cases hf : t2.tooFull = true
    · have full : (L.length + 1) * 5 ≥ t.mask * 3 := by
        have h := hf
        unfold SetTable.tooFull at h
        rw [decide_eq_true_eq, fl, m1] at h
        exact h
      have two : (t.mask = 7 ∧ L.length = 4) ∨ (t.mask = 31 ∧ L.length = 18) := by
        rcases R.tab.mok with e | e | e
        · exact .inl ⟨e, by rw [e] at hroom full; omega⟩
        · exact .inr ⟨e, by rw [e] at hroom full; omega⟩
        · rw [e] at full; omega
      have go : ∀ M, SetTable.sizeAbove (SetTable.grown (L.length + 1)) - 1 = M → MaskOk M → SetTable.sizeAbove (SetTable.grown (L.length + 1)) ≤ 128 → (L.length + 1) * 5 < M * 3 →
          wpAny (model P w) A (setRelay a (SetTable.grown (es.size + 1))) (fun _ s' => wpAny (model P w) A (pure true) Q E s') E { s with heap := h1 } := fun M g1 g2 g3 g4 => by
        rw [hz]
        refine relayN (s := { s with heap := h1 }) ho1 ⟨hex.1, hex.2.1, hex.2.2⟩ rfl hin T2 (by rw [len1, m1]; rcases two with ⟨e, e2⟩ | ⟨e, e2⟩ <;> omega) nd1 key1 ld1 (by omega) g1 g2 g3 (by rw [len1]; exact g4) fun h2 L2 es2 ep2 t2' sb2 R2 pm2 => ?_
        exact wpAny_pure (q true h2 L2 es2 ep2 t2' (sb.trans sb2) R2 (fun z => absurd z hm) fun _ => pm2.trans pm)
      have g : wpAny (model P w) A (setRelay a (SetTable.grown (es.size + 1))) (fun _ s' => wpAny (model P w) A (pure true) Q E s') E { s with heap := h1 } := by
        rcases two with ⟨_, e2⟩ | ⟨_, e2⟩
        · exact go 31 (by rw [e2, size_20]) (.inr (.inl rfl)) (by rw [e2, size_20]; decide) (by omega)
        · exact go 127 (by rw [e2, size_76]) (.inr (.inr rfl)) (by rw [e2, size_76]; decide) (by omega)
      first
        | exact wp_if_pos (by simp [hf]) (wpAny_bind g)
        | exact wpAny_bind (wp_if_pos (by simp [hf]) g)
    · have ok : Q true { s with heap := h1 } := q true h1 L1 es1 (ep + 1) t2 sb ⟨⟨_, ho1, ⟨hex.1, hex.2.1, hex.2.2⟩, rfl⟩, hin, T2, nd1, key1, ld1, by
          have h := hf
          unfold SetTable.tooFull at h
          rw [decide_eq_true_eq, fl] at h
          rw [len1]; omega, by omega⟩ (fun z => absurd z hm) fun _ => pm
      first
        | exact wp_if_neg (by simp [hf]) (wpAny_pure ok)
        | exact wpAny_bind (wp_if_neg (by simp [hf]) (wpAny_pure (wpAny_pure ok)))
  have by2 : ∀ (b : Bool), wpAny (model P w) A (do
      storeSet a (SetTable.insertAt es (SetTable.below t.place (way t.mask (k.hash w) K)) (k.hash w, .ref x)) (if b = true then t1 else { t1 with plain := false })
      if !false && (if b = true then t1 else { t1 with plain := false }).tooFull then setRelay a (SetTable.grown (es.size + 1))
      return true) Q E s := fun b => by
    cases b
    · exact cont { t1 with plain := false } rfl rfl rfl rfl
    · exact cont t1 rfl rfl rfl rfl
  by_cases hp : t1.plain = true
  · exact wp_if_pos hp (wpAny_bind (byVal_key k _ 8 s kx.is _ _ _ fun b => by2 b))
  · exact wp_if_neg hp (wpAny_bind (wpAny_pure (by2 true)))
end
end Q
set_option Elab.async false
set_option linter.all false
set_option maxRecDepth 100000
set_option maxHeartbeats 4000000
namespace Q
open PySem PySem.Spec PyProof.Rows L2
structure GotN (ks : List (Addr × NestedKey)) (i : Nat) (L : List (Addr × NestedKey)) : Prop where
  sub : ∀ p ∈ L, p ∈ ks.take i
  all : ∀ p ∈ ks.take i, p.2 ∈ L.map (·.2)
  len : L.length ≤ i
theorem take_one {α : Type} {l : List α} {i : Nat} {x : α} (h : l[i]? = some x) : l.take (i + 1) = l.take i ++ [x] := by
  rw [List.take_succ, h]; rfl
theorem GotN.next {ks L L' : List (Addr × NestedKey)} {i : Nat} {x : Addr × NestedKey} (g : GotN ks i L) (h : ks[i]? = some x) (c1 : x.2 ∈ L.map (·.2) → L' = L) (c2 : x.2 ∉ L.map (·.2) → L'.Perm (x :: L)) : GotN ks (i + 1) L' := by
  rcases Classical.em (x.2 ∈ L.map (·.2)) with c | c
  · rw [c1 c]
    refine ⟨fun p hp => ?_, fun p hp => ?_, by have := g.len; omega⟩
    · rw [take_one h]; exact List.mem_append_left _ (g.sub p hp)
    · rw [take_one h] at hp
      rcases List.mem_append.mp hp with z | z
      · exact g.all p z
      · exact (List.mem_singleton.mp z).symm ▸ c
  · have pm := c2 c
    refine ⟨fun p hp => ?_, fun p hp => ?_, by have := g.len; rw [pm.length_eq]; simp only [List.length_cons]; omega⟩
    · rw [take_one h]
      rcases List.mem_cons.mp (pm.mem_iff.mp hp) with e | z
      · exact e ▸ List.mem_append_right _ (List.mem_singleton.mpr rfl)
      · exact List.mem_append_left _ (g.sub p z)
    · rw [(pm.map (·.2)).mem_iff, List.map_cons]
      rw [take_one h] at hp
      rcases List.mem_append.mp hp with z | z
      · exact List.mem_cons_of_mem _ (g.all p z)
      · exact (List.mem_singleton.mp z).symm ▸ List.mem_cons_self
section
variable {P : Program} {w : World} {A : Around} {E : Value → Shared → Prop} {s : Shared}
theorem SetN.keep {h h' : Heap} {a : Addr} {L : List (Addr × NestedKey)} {es : Array (Int × Value)} {ep : Nat} {t : SetTable} (R : SetN w h a L es ep t) (ha : ∀ o, h.get? a = some o → h'.get? a = some o) (hk : ∀ p ∈ L, Tk h' p.2 p.1) : SetN w h' a L es ep t := by
  obtain ⟨o, ho, r⟩ := R.ob
  exact ⟨⟨o, ha o ho, r⟩, R.row, R.tab, R.nd, hk, R.led, R.room, R.few⟩
abbrev newSetO (w : World) : Obj := { cls := .type "set", dict := none, data := .set #[] 0 (.fresh 0 0 (!w.params.followText "set-order")) }
theorem SetN.new {h : Heap} {a : Addr} (ho : h.get? a = some (newSetO w)) : SetN w h a [] #[] 0 (.fresh 0 0 (!w.params.followText "set-order")) where
  ob := ⟨_, ho, ⟨rfl, rfl, rfl⟩, rfl⟩
  row := rfl
  tab := ⟨List.Pairwise.nil, rfl, rfl, .inl rfl, fun x hx => (by cases hx), fun i h j hi => (by simp [hsN] at hi)⟩
  nd := List.nodup_nil
  key := fun p hp => (by cases hp)
  led := by
    show _ ∨ (!w.params.followText "set-order") = true
    cases w.params.followText "set-order" <;> simp
  room := by show 0 * 5 < 7 * 3; decide
  few := by show 0 < 76; decide
theorem loopN {I : Addr} {fp wr : List Addr} {G : Array GenState → Array GenState → Prop} {n : Nat} {Pv : Nat → Value → Prop} {St : Nat → Shared → Prop} {R : Result → Shared → Prop}
    (W : WalksS P w A.in1 I fp wr G n Pv St) (S : Addr) (hSf : S ∉ fp) (ks : List (Addr × NestedKey)) (hn : n = ks.length) (hfew : ks.length < 64) (hval : ∀ i v, Pv i v → ∃ p, ks[i]? = some p ∧ v = .ref p.1)
    (h0 : Heap) (hk : ∀ p ∈ ks, Tk h0 p.2 p.1) (hS0 : h0.get? S = none) (hw0 : ∀ b ∈ wr, h0.get? b = none) (hu : A.in1.units + 8 < cLine) :
    ∀ (k i : Nat) (s : Shared), n - i = k → i ≤ n → St i s → (∀ b o, h0.get? b = some o → s.heap.get? b = some o) → (∃ L es ep t, SetN w s.heap S L es ep t ∧ GotN ks i L) →
      (∀ s' L es ep t, Moved (S :: wr) G s s' → SetN w s'.heap S L es ep t → GotN ks n L → (∀ b o, h0.get? b = some o → s'.heap.get? b = some o) → R (.ok (.ret .none)) s') →
      codeAny (model P w) A (.builtin "set.update.loop" ⟨[.ref S, .ref I], []⟩) R s := by
  have hSw : S ∉ wr := fun h => hSf (W.sub _ h)
  have up : ∀ b ∈ wr, b ∈ S :: wr := fun b hb => List.mem_cons_of_mem _ hb
  have kept : ∀ {s s' : Shared}, Moved wr G s s' → (∀ b o, h0.get? b = some o → s.heap.get? b = some o) → ∀ b o, h0.get? b = some o → s'.heap.get? b = some o := fun hm q b o e =>
    hm.heap b o (fun hb => by rw [hw0 b hb] at e; cases e) (q b o e)
  intro k
  induction k with
  | zero =>
    intro i s hk' hi hst hkp ⟨L, es, ep, t, hS, g⟩ hR
    obtain rfl : i = n := by omega
    refine codeAny_builtin F.entry_set_update_loop ?_; rw [Around.under_plainId F.plain_set_update_loop _]
    show wpAny _ A.in1 (pyNext (.ref I) >>= _) _ _ s
    refine wpAny_bind (W.done s _ _ hst fun s' hm => ?_)
    show wpAny _ A.in1 (ret Value.none) _ _ s'
    have q := kept hm hkp
    exact wpAny_pure (hR s' L es ep t (hm.mono up) (hS.keep (fun o e => hm.heap S o hSw e) fun p hp => (hk p (List.mem_of_mem_take (g.sub p hp))).keep q) g q)
  | succ k ih =>
    intro i s hk' hi hst hkp ⟨L, es, ep, t, hS, g⟩ hR
    have hlt : i < n := by omega
    refine codeAny_builtin F.entry_set_update_loop ?_; rw [Around.under_plainId F.plain_set_update_loop _]
    show wpAny _ A.in1 (pyNext (.ref I) >>= _) _ _ s
    refine wpAny_bind (W.item i s _ _ hlt hst fun v s' hP hst' hm => ?_)
    obtain ⟨p, hp, rfl⟩ := hval i v hP
    have q := kept hm hkp
    have hS' : SetN w s'.heap S L es ep t := hS.keep (fun o e => hm.heap S o hSw e) fun u hu => (hk u (List.mem_of_mem_take (g.sub u hu))).keep q
    have hx : Tk s'.heap p.2 p.1 := (hk p (List.mem_of_getElem? hp)).keep q
    show wpAny _ A.in1 (holding [Value.ref p.1] (setAdd S (.ref p.1)) >>= _) _ _ s'
    refine wpAny_bind (wpAny_holding ?_)
    unfold setAdd
    refine wpAny_holding (wpAny_bind (hx.hash hu ?_))
    refine addN (s := { s' with toks := s'.toks + p.2.draws }) hS' hx hu (by have := g.len; omega) fun b h' L' es' ep' t' sb hS2 c1 c2 => ?_
    have q2 : ∀ b o, h0.get? b = some o → h'.get? b = some o := fun b o e => (sb.2 b (fun z => by rw [z, hS0] at e; cases e)).trans (q b o e)
    refine wpAny_pure ⟨plainId_quiet F.plain_set_update_loop _, ih (i + 1) _ (by omega) hlt (W.frame _ s' _ _ hst' (Nat.le_add_right _ _) fun b hb o e => ?_) q2 ⟨L', es', ep', t', hS2, g.next hp c1 c2⟩ fun s'' L2 es2 ep2 t2 m2 S2 g2 k2 => ?_⟩
    · exact (sb.2 b (fun h : b = S => hSf (by rw [← h]; exact hb))).trans e
    · refine hR s'' L2 es2 ep2 t2 (Moved.trans W.gtrans ((hm.mono up).then_heap (Nat.le_add_right _ _) fun b o hb e => ?_) m2) S2 g2 k2
      exact (sb.2 b (fun h : b = S => hb (by rw [h]; exact List.mem_cons_self))).trans e
end
end Q
set_option Elab.async false
set_option linter.all false
set_option maxRecDepth 100000
set_option maxHeartbeats 4000000
namespace Q
open PySem PySem.Spec PyProof.Rows L2
section
variable {P : Program} {w : World} {A : Around} {E : Value → Shared → Prop} {s : Shared}
end
end Q
set_option Elab.async false
set_option linter.all false
set_option maxRecDepth 100000
set_option maxHeartbeats 4000000
namespace Q
open PySem PySem.Spec PyProof.Rows L2
mutual
/-- ints, texts, tuples of these -/
def keyD : D → Bool
  | .int _ => true
  | .str _ => true
  | .tup ds => keysD ds
  | _ => false
def keysD : List D → Bool
  | [] => true
  | d :: ds => keyD d && keysD ds
end
mutual
theorem nested_reads {h : Heap} : ∀ (d : D) (v : Value) (as : List Addr), Reads h v (D.py d) as → keyD d = true → NestedIs h (nkD d) v
  | .int i, v, as, r, _ => by cases r; exact .int _ _
  | .str x, v, as, r, _ => by cases r; exact .text _ _
  | .tup ds, v, as, r, k => by
    simp only [keyD] at k
    simp only [D.py] at r
    cases r with
    | tuple h1 h2 h3 h4 => exact .tup h1 h2 h3 (nested_readsAll ds _ _ h4 k)
  | .non, _, _, _, k => by cases k
  | .bl _, _, _, _, k => by cases k
  | .lst _, _, _, _, k => by cases k
  | .frz _, _, _, _, k => by cases k
  | .loc _, _, _, _, k => by cases k
  | .ty _, _, _, _, k => by cases k
  | .dct _ _, _, _, _, k => by cases k
  | .exc _ _ _, _, _, _, k => by cases k
theorem nested_readsAll {h : Heap} : ∀ (ds : List D) (vs : List Value) (as : List Addr), ReadsAll h vs (D.pys ds) as → keysD ds = true → NestedAll h (nksD ds) vs
  | [], vs, as, r, _ => by cases r; exact .nil
  | d :: ds, vs, as, r, k => by
    simp only [keysD, Bool.and_eq_true] at k
    simp only [D.pys] at r
    cases r with
    | cons r1 r2 => exact .cons (nested_reads d _ _ r1 k.1) (nested_readsAll ds _ _ r2 k.2)
end
theorem Okay.sub {ds es : List D} (h : Okay ds) (s : ∀ d ∈ es, d ∈ ds) : Okay es := ⟨fun d hd e he => h.cmp d (s d hd) e (s e he), fun d hd => h.pl d (s d hd), fun d hd => h.dp d (s d hd)⟩
end Q
set_option Elab.async false
set_option linter.all false
set_option maxRecDepth 100000
set_option maxHeartbeats 4000000
namespace Q
open PySem PySem.Spec PyProof.Rows L2
open PySem.W (SortsAt AllAlike dataKind EachIs)
structure SetE (w : World) (h : Heap) (a : Addr) (L : List (Addr × NestedKey)) : Prop where
  ex : ∃ (es : Array (Int × Value)) (ep : Nat) (t : SetTable), (∃ o, h.get? a = some o ∧ o.ExactSet ∧ o.data = .set es ep t) ∧ es.toList = L.map (rowN w) ∧ TabOk t (hsN w L) ∧ (w.params.followText "set-order" = true ∨ t.led = true) ∧ L.length * 5 < t.mask * 3 ∧ L.length < 76
theorem SetN.e {w : World} {h : Heap} {a : Addr} {L : List (Addr × NestedKey)} {es : Array (Int × Value)} {ep : Nat} {t : SetTable} (R : SetN w h a L es ep t) : SetE w h a L := ⟨es, ep, t, R.ob, R.row, R.tab, R.led, R.room, R.few⟩
def isTup : D → Bool
  | .tup _ => true
  | _ => false
def setOk (ds : List D) : Bool := sortable ds && ds.all isTup && decide (D.deps ds ≤ 8) && decide (ds.length < 64)
section
variable {X : Cx} {c : Fx} {W : WX}
end
end Q
set_option Elab.async false
set_option linter.all false
set_option maxRecDepth 100000
set_option maxHeartbeats 4000000
namespace Q
open PySem PySem.Spec PyProof.Rows L2
def fSset' (f : FE) : FE := fun env μ => (f env μ).bind fun x μ => match sq env μ x with
  | some (.lst ds) => if setOk ds then .ok (.val (.lst (isort (dedup ds)))) μ else .bad
  | _ => .bad
section
variable {X : Cx} {c : Fx} {W : WX}
end
end Q
set_option Elab.async false
set_option linter.all false
set_option maxRecDepth 100000
set_option maxHeartbeats 4000000
namespace Q
open PySem PySem.Spec PyProof.Rows L2
mutual
def noLoc : D → Bool
  | .loc _ => false
  | .tup ds => noLocs ds
  | .lst ds => noLocs ds
  | .frz ds => noLocs ds
  | .dct ks ds => noLocs ks && noLocs ds
  | .exc _ _ ds => noLocs ds
  | _ => true
def noLocs : List D → Bool
  | [] => true
  | d :: ds => noLoc d && noLocs ds
end
section
variable {K : KW} {G : Hp} {L L' : List Addr}
mutual
theorem Dat.other : ∀ {v : V} {d : D}, Dat K G L v d → noLoc d = true → Dat K G L' v d
  | _, _, .non, _ => .non
  | _, _, .bl b, _ => .bl b
  | _, _, .int i, _ => .int i
  | _, _, .str x, _ => .str x
  | _, _, .ty n, _ => .ty n
  | _, _, .tup h t, n => .tup h (Dats.other t (by simpa [noLoc] using n))
  | _, _, .lst h t, n => .lst h (Dats.other t (by simpa [noLoc] using n))
  | _, _, .frz h t, n => .frz h (Dats.other t (by simpa [noLoc] using n))
  | _, _, .loc h, n => by simp [noLoc] at n
  | _, _, .dct h e l k t, n => .dct h e l (Dats.other k (by simp only [noLoc, Bool.and_eq_true] at n; exact n.1)) (Dats.other t (by simp only [noLoc, Bool.and_eq_true] at n; exact n.2))
  | _, _, .exc h1 h2 h3 h4 t, n => .exc h1 h2 h3 h4 (Dats.other t (by simpa [noLoc] using n))
theorem Dats.other : ∀ {vs : List V} {ds : List D}, Dats K G L vs ds → noLocs ds = true → Dats K G L' vs ds
  | _, _, .nil, _ => .nil
  | _, _, .cons h t, n => by
    simp only [noLocs, Bool.and_eq_true] at n
    exact .cons (Dat.other h n.1) (Dats.other t n.2)
end
theorem DicF.other {a : Addr} {o : HO} {ks ds : List D} (h : DicF K G L a o ks ds) (n1 : noLocs ks = true) (n2 : noLocs ds = true) : DicF K G L' a o ks ds := by
  rcases h with ⟨bs, vs, h1, h2, h3, h4⟩ | h
  · exact .inl ⟨bs, vs, h1, h2, h3.other n1, h4.other n2⟩
  · exact .inr h
end
section
variable {X : Cx} {c : Fx} {W : WX} {σ : Sl} {H G : Hp} {env : En} {μ : Mu}
end
end Q
set_option Elab.async false
set_option linter.all false
set_option maxRecDepth 100000
set_option maxHeartbeats 4000000
namespace Q
open PySem PySem.Spec PyProof.Rows L2
section
variable {X : Cx} {c : Fx} {W : WX}
end
end Q
set_option Elab.async false
set_option linter.all false
set_option maxRecDepth 100000
set_option maxHeartbeats 4000000
namespace Q
open PySem PySem.Spec PyProof.Rows L2
mutual
/-- data with no list in it -/
def noLst : D → Bool
  | .lst _ => false
  | .frz _ => false
  | .tup ds => noLsts ds
  | .dct ks ds => noLsts ks && noLsts ds
  | .exc _ _ ds => noLsts ds
  | _ => true
def noLsts : List D → Bool
  | [] => true
  | d :: ds => noLst d && noLsts ds
end
def noLg (G G2 : Hp) : Hp := fun b => match G b with
  | some o => some o
  | none => match G2 b with
    | some (.lst _) => none
    | r => r
theorem noLg_in {G G2 : Hp} (s : Sub G G2) {b : Addr} {o : HO} (e : G2 b = some o) (n : ∀ vs, o ≠ .lst vs) : noLg G G2 b = some o := by
  unfold noLg
  cases h : G b with
  | some u => have := s _ _ h; rw [e] at this; cases this; rfl
  | none =>
    dsimp only
    rw [e]
    cases o with
    | lst vs => exact absurd rfl (n vs)
    | _ => rfl
theorem noLg_tup {K : PySem.W.Frag} {G G2 : Hp} (s : Sub G G2) {a : Addr} {vs : List V} (h : SqTd K G2 a vs) : SqTd K (noLg G G2) a vs := by
  obtain ⟨h, k⟩ := h
  refine ⟨?_, k.imp (fun ⟨o, u, e, d⟩ => ⟨o, u, noLg_in s e (fun vs z => by cases z), d⟩) id⟩
  rcases h with (h | ⟨o, h⟩) | h
  · exact .inl (.inl (noLg_in s h fun vs z => by cases z))
  · exact .inl (.inr ⟨o, noLg_in s h fun vs z => by cases z⟩)
  · exact .inr h
section
variable {K : KW} {G G2 : Hp} {L : List Addr}
mutual
theorem Dat.anyG (s : Sub G G2) : ∀ {v : V} {d : D}, Dat K G2 L v d → noLst d = true → Dat K (noLg G G2) L v d
  | _, _, .non, _ => .non
  | _, _, .bl b, _ => .bl b
  | _, _, .int i, _ => .int i
  | _, _, .str x, _ => .str x
  | _, _, .ty n, _ => .ty n
  | _, _, .tup h t, n => .tup (noLg_tup s h) (Dats.anyG s t (by simpa [noLst] using n))
  | _, _, .lst h t, n => by simp [noLst] at n
  | _, _, .frz h t, n => by simp [noLst] at n
  | _, _, .loc h, _ => .loc h
  | _, _, .dct h e l k t, n => .dct (noLg_in s h fun vs z => by cases z) e l (Dats.anyG s k (by simp only [noLst, Bool.and_eq_true] at n; exact n.1)) (Dats.anyG s t (by simp only [noLst, Bool.and_eq_true] at n; exact n.2))
  | _, _, .exc h1 h2 h3 h4 t, n => .exc h1 (noLg_in s h2 fun vs z => by cases z) (h3.imp id fun ⟨dd, e1, e2⟩ => ⟨dd, e1, noLg_in s e2 fun vs z => by cases z⟩) h4 (Dats.anyG s t (by simpa [noLst] using n))
theorem Dats.anyG (s : Sub G G2) : ∀ {vs : List V} {ds : List D}, Dats K G2 L vs ds → noLsts ds = true → Dats K (noLg G G2) L vs ds
  | _, _, .nil, _ => .nil
  | _, _, .cons h t, n => by
    simp only [noLsts, Bool.and_eq_true] at n
    exact .cons (Dat.anyG s h n.1) (Dats.anyG s t n.2)
end
end
section
variable {X : Cx} {c : Fx} {W : WX} {σ : Sl} {H G H2 G1 G2 : Hp} {env env1 : En} {μ μ2 : Mu}
end
end Q
set_option Elab.async false
set_option linter.all false
set_option maxRecDepth 100000
set_option maxHeartbeats 4000000
namespace Q
open PySem PySem.Spec PyProof.Rows L2
section
variable {X : Cx} {c : Fx} {W : WX}
def fStar (fe : FE) (fr : FA) : FA := fun env μ => (fe env μ).bind fun x μ => match x with
  | .val (.tup ds) => (fr env μ).bind fun es μ => .ok (ds ++ es) μ
  | .val (.lst ds) => (fr env μ).bind fun es μ => .ok (ds ++ es) μ
  | .val (.frz ds) => (fr env μ).bind fun es μ => .ok (ds ++ es) μ
  | _ => .bad
def fExt (i : Nat) (fa : FE) : FS := fun env μ => match getL env μ i with
  | none => .bad
  | some _ => (fa env μ).to env fun x μ => match x, getL env μ i with
    | .val (.lst es), some ds => if ds.length + es.length ≤ LIM then .nxt (putL env μ i (ds ++ es)).1 (putL env μ i (ds ++ es)).2 else .bad
    | _, _ => .bad
end
end Q
set_option Elab.async false
set_option linter.all false
namespace Q
open PySem PySem.Spec PyProof.Rows L2
end Q
set_option Elab.async false
set_option linter.all false
set_option maxRecDepth 100000
set_option maxHeartbeats 4000000
namespace PySem.W
open PySem PySem.Calls PyProof.Rows
section
variable {prog : Program} {w : World} {A : Around} {E : Value → Shared → Prop} {s : Shared} {κ : PyProof.Rows.KeyKind}
end
end PySem.W
namespace Q
open PySem PySem.Spec PyProof.Rows L2
open PySem.W (Looks SortsAt AllAlike Sortable dataKind dataLt alike alikeAll EachIs)
section
variable {X : Cx} {c : Fx} {W : WX}
end
end Q
set_option Elab.async false
set_option linter.all false
set_option maxRecDepth 100000
set_option maxHeartbeats 4000000
namespace Q
open PySem PySem.Spec PyProof.Rows L2
mutual
theorem ik_key : ∀ d : D, ikD d = true → keyD d = true
  | .int _, _ => rfl
  | .tup ds, h => by simp only [ikD] at h; simp only [keyD, iks_key ds h]
  | .non, h => by cases h
  | .bl _, h => by cases h
  | .str _, _ => rfl
  | .lst _, h => by cases h
  | .frz _, h => by cases h
  | .loc _, h => by cases h
  | .ty _, h => by cases h
  | .dct _ _, h => by cases h
  | .exc _ _ _, h => by cases h
theorem iks_key : ∀ ds : List D, iksD ds = true → keysD ds = true
  | [], _ => rfl
  | d :: ds, h => by
    simp only [iksD, Bool.and_eq_true] at h
    simp only [keysD, ik_key d h.1, iks_key ds h.2, Bool.and_self]
end
mutual
theorem ik_plain : ∀ d : D, ikD d = true → D.plain d = true
  | .int _, _ => rfl
  | .tup ds, h => by simp only [ikD] at h; simp only [D.plain, iks_plain ds h]
  | .non, h => by cases h
  | .bl _, h => by cases h
  | .str _, h => h
  | .lst _, h => by cases h
  | .frz _, h => by cases h
  | .loc _, h => by cases h
  | .ty _, h => by cases h
  | .dct _ _, h => by cases h
  | .exc _ _ _, h => by cases h
theorem iks_plain : ∀ ds : List D, iksD ds = true → D.plains ds = true
  | [], _ => rfl
  | d :: ds, h => by
    simp only [iksD, Bool.and_eq_true] at h
    simp only [D.plains, ik_plain d h.1, iks_plain ds h.2, Bool.and_self]
end
theorem kOk_ik {d : D} (h : kOk1 d = true) : ikD d = true ∧ (nkD d).depth ≤ 8 := by
  cases d with
  | tup ds =>
    have h : (iksD ds && decide ((nkD (.tup ds)).depth ≤ 8)) = true := h
    simp only [Bool.and_eq_true, decide_eq_true_eq] at h
    exact ⟨h.1, h.2⟩
  | _ => cases h
theorem nksD_map : ∀ ds : List D, nksD ds = ds.map nkD
  | [] => rfl
  | d :: ds => by simp only [nksD, List.map_cons, nksD_map ds]
abbrev ents (ks : List NestedKey) (bs : List Addr) (us : List Value) : List (NestedKey × Addr × Value) := ks.zip (bs.zip us)
theorem ents_cons (k : NestedKey) (ks : List NestedKey) (b : Addr) (bs : List Addr) (u : Value) (us : List Value) : ents (k :: ks) (b :: bs) (u :: us) = (k, b, u) :: ents ks bs us := rfl
section
variable {X : Cx} {pins : List (Addr × Obj)} {σ : Sl} {H G : Hp} {Ls : List Addr} {s : Shared}
theorem key_at (I : Inv X pins σ H s) (sub : Sub G H) {b : Addr} {k : D} (d : Dat X.KW G Ls (.ref b) k) (h : kOk1 k = true) : (nestedKind X.prog X.w).is s.heap (nkD k) b := by
  obtain ⟨h1, h2⟩ := kOk_ik h
  obtain ⟨as, rd⟩ := Dp.reads I _ _ _ (Dat.dp sub d (ik_plain k h1)) (show RelV (.ref b) (.ref b) from rfl)
  exact ⟨nested_reads k _ _ rd (ik_key k h1), h2⟩
theorem keys_at (I : Inv X pins σ H s) (sub : Sub G H) : ∀ {bs : List Addr} {ks : List D} {us : List Value}, Dats X.KW G Ls (bs.map V.ref) ks → ks.all kOk1 = true → ∀ x ∈ ents (nksD ks) bs us, (nestedKind X.prog X.w).is s.heap x.1 x.2.1
  | [], [], _, _, _, x, hx => by simp [nksD, ents] at hx
  | b :: bs, k :: ks, [], _, _, x, hx => by simp [nksD, ents] at hx
  | b :: bs, k :: ks, u :: us, .cons d ds, h, x, hx => by
    simp only [List.all_cons, Bool.and_eq_true] at h
    simp only [nksD, ents_cons] at hx
    rcases List.mem_cons.mp hx with e | hx
    · subst e; exact key_at I sub d h.1
    · exact keys_at I sub ds h.2 x hx
theorem ents_keys : ∀ (ks : List NestedKey) (bs : List Addr) (us : List Value), bs.length = ks.length → us.length = ks.length → (ents ks bs us).map (·.1) = ks
  | [], _, _, _, _ => by simp
  | k :: ks, [], _, h, _ => by cases h
  | k :: ks, b :: bs, [], _, h => by cases h
  | k :: ks, b :: bs, u :: us, h, h' => by
    rw [ents_cons, List.map_cons]
    rw [ents_keys ks bs us (by simpa using h) (by simpa using h')]
theorem dic_at (I : Inv X pins σ H s) (sub : Sub G H) {a : Addr} {ks : List D} {bs : List Addr} {vs : List V} (e : H a = some (DctO X.w a (nksD ks) bs vs)) (dk : Dats X.KW G Ls (bs.map V.ref) ks) (ok : ks.all kOk1 = true) :
    ∃ us, Vals vs us ∧ (a == sysModules) = false ∧ bs.length = ks.length ∧ vs.length = ks.length ∧ ks.length ≤ sizeLine ∧ s.heap.DictOfH (nestedKind X.prog X.w) a (ents (nksD ks) bs us) := by
  obtain ⟨⟨us, r, hs, l1, l2, nd, sz, o, es, ep, ho, hx, hd, he⟩, _⟩ := I.hok a _ e
  have nl : (nksD ks).length = ks.length := by rw [nksD_map, List.length_map]
  rw [nl] at l1 l2 sz
  refine ⟨us, r, hs, l1, l2, sz, o, es, ep, ho, hx, hd, he _, keys_at I sub dk ok, ?_⟩
  rw [ents_keys _ _ _ (by rw [nl]; exact l1) (by rw [nl, ← r.length]; exact l2)]
  exact nd
end
end Q
set_option Elab.async false
set_option linter.all false
set_option maxRecDepth 100000
set_option maxHeartbeats 4000000
namespace Q
open PySem PySem.Spec PyProof.Rows L2
def DicIs (K : KW) (G : Hp) (Ls : List Addr) (H : Hp) (a : Addr) (ks ds : List D) : Prop := ∃ bs vs, Sub G H ∧ H a = some (DctO K.w a (nksD ks) bs vs) ∧ Dats K G Ls (bs.map V.ref) ks ∧ ks.all kOk1 = true ∧ Dats K G Ls vs ds
section
variable {X : Cx}
theorem DicIs.go {pins : List (Addr × Obj)} {σ : Sl} {H G : Hp} {Ls : List Addr} {s : Shared} {a : Addr} {ks ds : List D} (I : Inv X pins σ H s) (d : DicIs X.KW G Ls H a ks ds) :
    ∃ bs vs us, Sub G H ∧ H a = some (DctO X.w a (nksD ks) bs vs) ∧ Dats X.KW G Ls (bs.map V.ref) ks ∧ ks.all kOk1 = true ∧ Dats X.KW G Ls vs ds ∧ Vals vs us ∧ (a == sysModules) = false ∧ bs.length = ks.length ∧ ks.length = ds.length ∧ ks.length ≤ sizeLine ∧ (nksD ks).Nodup ∧ s.heap.DictOfH (nestedKind X.prog X.w) a (ents (nksD ks) bs us) := by
  obtain ⟨bs, vs, sub, e, dk, ok, dv⟩ := d
  obtain ⟨us, r, hs, l1, l2, l3, dd⟩ := dic_at I sub e dk ok
  obtain ⟨⟨_, _, _, _, _, nd, _⟩, _⟩ := I.hok a _ e
  exact ⟨bs, vs, us, sub, e, dk, ok, dv, r, hs, l1, by rw [← l2]; exact dv.length, l3, nd, dd⟩
end
end Q
set_option Elab.async false
set_option linter.all false
set_option maxRecDepth 100000
set_option maxHeartbeats 4000000
namespace Q
open PySem PySem.Spec PyProof.Rows L2
section
variable {X : Cx} {c : Fx} {W : WX} {σ : Sl} {H G : Hp} {env : En} {μ : Mu}
end
end Q
set_option Elab.async false
set_option linter.all false
set_option maxRecDepth 100000
set_option maxHeartbeats 4000000
namespace Q
open PySem PySem.Spec PyProof.Rows L2
section
variable {X : Cx} {c : Fx} {W : WX} {σ : Sl} {H G : Hp} {env : En} {μ : Mu}
def dataE (env : En) : Prop := ∀ (i : Nat) (e : EV), env[i]? = some e → (∃ d, e = .val d) ∨ e = .un
theorem dataE.wipe (h : dataE env) : ∀ vs : List Nat, dataE (wipeE env vs)
  | [] => h
  | v :: vs => fun i e q => by
    rcases set_get (show ((wipeE env vs).set v .un)[i]? = some e from q) with ⟨_, q, _⟩ | ⟨_, q⟩
    · exact .inr q
    · exact dataE.wipe h vs i e q
theorem gone {L : List Addr} {H G H' G' : Hp} (x : Ext L H G H' G') {D : Addr} {o : HO} (g : G D = none) (h : H D = some o) : G' D = none := by
  cases w : G' D with
  | none => rfl
  | some u =>
    rcases x.newG D u w with z | ⟨z, _⟩
    · rw [g] at z; cases z
    · rw [h] at z; cases z
end
end Q
set_option Elab.async false
set_option linter.all false
set_option maxRecDepth 100000
set_option maxHeartbeats 4000000
namespace HT
open PySem PySem.Spec PyProof.Rows
section
variable {prog : Program} {w : World} {A : Around} {E : Value → Shared → Prop} {s : Shared}
end
end HT
namespace L2
open PySem PySem.Spec PyProof.Rows
end L2
namespace Q
open PySem PySem.Spec PyProof.Rows L2
end Q
set_option Elab.async false
set_option linter.all false
set_option maxRecDepth 100000
set_option maxHeartbeats 4000000
namespace Q
open PySem PySem.Spec PyProof.Rows L2
section
variable {X : Cx} {c : Fx} {W : WX} {P : L2.St → Hp → Prop} {v : V} {vs : List V}
def SRes.unb (i : Nat) : SRes → SRes
  | .nxt env μ => .nxt (env.set i .un) μ
  | .brk env μ => .brk (env.set i .un) μ
  | .cnt env μ => .cnt (env.set i .un) μ
  | .ret d μ => .ret d μ
  | _ => .bad
end
end Q
set_option Elab.async false
set_option linter.all false
set_option maxRecDepth 100000
set_option maxHeartbeats 4000000
namespace Q
open PySem PySem.Spec PyProof.Rows L2
section
variable {X : Cx} {c : Fx} {W : WX}
end
end Q
set_option Elab.async false
set_option linter.all false
set_option maxRecDepth 100000
set_option maxHeartbeats 4000000
namespace Q
open PySem PySem.Spec PyProof.Rows L2
section
variable {X : Cx} {c : Fx} {W : WX}
end
end Q
set_option Elab.async false
set_option linter.all false
set_option maxRecDepth 100000
set_option maxHeartbeats 4000000
namespace Q
open PySem PySem.Spec PySem.Calls PyProof.Rows L2
open PySem.W (InstAt ksEnv ksFn ks_superObj ks_newsPush excObj excTup dictOf KxsFacts excInitIn excOver ks_superIn UpdF)
structure Ec (P : Program) (K : PySem.W.Frag) (C : Addr) (B newId initId : String) (bmB : List Value) (fld par : Str) (body : List Stmt) (scope : Scope) (params : Arguments) : Prop where
  FB : ExcBaseFacts B newId initId bmB
  KF : KxsFacts B initId
  SF : StoreFacts B bmB "object.__setattr__" "object"
  iq : excInitIn K C bmB newId = true
  ov : excOver K C bmB = true
  sa : PySem.W.findIn K (.ref C) "__setattr__" = some (some (.builtin "object.__setattr__"))
  tk : PySem.W.takerIn K C fld = some none
  hd : PySem.W.hasDictIn K C = true
  sup : ks_superIn K C C "__init__" = some (some (.builtin initId))
  sB : PySem.W.subIn K (.ref C) (.type B) = some true
  mr : PySem.W.mroIn K C (.ref C) = some true
  n3 : PySem.W.nsIn K cStatics "thirdparty.any" = some none
  htop : (P.main.scope.names.lookup ("super" : Str)).isSome = false
  ks : scope.names.lookup ("super" : Str) = some .globalImplicit
  kc : scope.names.lookup ("__class__" : Str) = some .free
  ka : scope.names.lookup ("self" : Str) = some .local
  kp : scope.names.lookup par = some .local
  sk : scope.kind = .function
  pne : par ≠ ("self" : Str)
  pa : (params.posonlyargs ++ params.args).head?.map (·.arg) = some ("self" : Str)
  bd : ∃ p0 p1 p2 p3 p4 p5 p6 p7 p8 p9, body = [.Expr (.Call (.Attribute (.Call (.Name "super" p0) [] [] p1) "__init__" p2) [.Name par p3] [] p4) p5, .Assign [.Attribute (.Name "self" p6) fld p7] (.Name par p8) p9] ∧ (p2.endLine == p4.line) = true
  dbg : (par == ("__debug__" : Str)) = false
section
variable {P : Program} {w : World} {K : PySem.W.Frag} {mg : Str → Option Value} {base h0 : Heap} {C : Addr} {B newId initId : String} {bmB : List Value} {fld par : Str} {body : List Stmt} {scope : Scope} {params : Arguments}
variable {A : Around} {E : Value → Shared → Prop} {s : Shared} {L : Addr} {m : Str → Option Value} {f cc cda a t0 : Addr} {q qual : Str} {v : Value} {nm : Str}
theorem xc_super {bdy : List Stmt} {p0 p1 : Pos} {whole : Sem Value} {fd : FuncData} {vs : Array Value} {file : Str} {tf : Tok} {oc ccl cl : Value} {od cdd cld : Option Addr} {osl ccs csl : Array (Option Value)} {news : List (Addr × Obj)} {Q : Value → Shared → Prop}
    (T : Ec P K C B newId initId bmB fld par body scope params) (M : Mod K mg h0) (F : Fr h0 L s.heap m) (N : News h0 L s.heap news) (hns : mg ("super" : Str) = none)
    (lf : K.lookup f = some ⟨oc, od, .func fd, osl⟩) (hfp : fd.params = params) (hv : m ("self" : Str) = some (.ref a)) (I : InstAt s.heap a ox C odx)
    (lc : K.lookup cda = some ⟨ccl, cdd, .fields vs, ccs⟩) (hvs : vs[2]? = some (.str file tf)) (hfile : ((P.main.file : Str) == file) = true) (lcell : K.lookup cc = some ⟨cl, cld, .cell (some (.ref C)), csl⟩)
    (h : ∀ so g, Fr h0 L g m → News h0 L g ((so, ks_superObj C a C) :: news) → (∀ p ∈ news, p.1 < so) → Q (.ref so) { s with heap := g }) :
    _root_.PySem.wpAt (model P w) A (.func bdy (ksEnv q scope L f (.ref cda) cc)) (attributeBase (.Call (.Name "super" p0) [] [] p1) "__init__" (ksEnv q scope L f (.ref cda) cc) whole) Q E s := by
  have X : K.In s.heap := M.kin.keeps F.keep
  obtain ⟨cd, hcd⟩ : ∃ cd, PySem.W.clsIn K C = some cd := by
    have := T.mr
    unfold PySem.W.mroIn at this
    cases z : PySem.W.clsIn K C with
    | none => rw [z] at this; cases this
    | some cd => exact ⟨cd, rfl⟩
  obtain ⟨oD, e1, e2⟩ : ∃ oD, s.heap.get? C = some oD ∧ oD.data = .cls cd := by
    have hc := hcd
    unfold PySem.W.clsIn at hc
    split at hc
    · rename_i ho
      cases hc
      exact ⟨_, X _ _ ho, rfl⟩
    · cases hc
  obtain ⟨ar, ha1, ha2⟩ : ∃ ar : Arg, (fd.params.posonlyargs ++ fd.params.args).head? = some ar ∧ ar.arg = ("self" : Str) := by
    have := T.pa
    rw [← hfp] at this
    cases z : (fd.params.posonlyargs ++ fd.params.args).head? with
    | none => rw [z] at this; cases this
    | some ar => rw [z] at this; exact ⟨ar, rfl, by simpa using this⟩
  obtain ⟨hh, g, d, t, os⟩ := s
  obtain ⟨mb, b1, b2⟩ := M.blt
  refine PySem.ks_wpAt_super_base (env := ksEnv q scope L f (.ref cda) cc) T.ks T.kc rfl rfl (X _ _ lf) rfl ha1 rfl (X _ _ lc) rfl hvs hfile T.htop ?_
  refine PySem.W.ks_loadName_global T.sk T.ks (loadGlobal_builtin (env := ksEnv q scope L f (.ref cda) cc) (M.glob.keeps F.keep) hns (b1.keeps F.keep) ((b2 _ (by decide)).trans rfl) ⟨rfl, ?_⟩)
  refine wpAny_loadName_free T.sk T.kc rfl ⟨_, X _ _ lcell, rfl⟩ ?_
  rw [ha2]
  refine wpAny_loadName_local T.sk T.ka F.ns hv ?_
  refine PySem.ks_wpAny_isType_cls e1 e2 ⟨rfl, ?_⟩
  refine PySem.ks_wpAny_call_super e1 e2 I.at_ I.cls (fun c e => ?_) (PySem.W.looks_mroIn X T.mr) (fun g' e k => ?_)
  · have := I.no
    unfold PySem.W.notCls at this
    rw [e] at this
    cases this
  · obtain ⟨F', N', l'⟩ := ks_newsPush (s := ⟨hh, g, d, t, os⟩) F N rfl e k
    exact h _ _ F' N' l'
theorem sup_eval {p0 p1 p2 p3 p4 : Pos} (h : (p2.endLine == p4.line) = true) (env : Env) : eval (.Call (.Attribute (.Call (.Name "super" p0) [] [] p1) "__init__" p2) [.Name par p3] [] p4) env = (do
      let ov ← attributeBase (.Call (.Name "super" p0) [] [] p1) "__init__" env (eval (.Call (.Name "super" p0) [] [] p1) env)
      standAt p2.atName
      let (g, first) ← holding [ov] (getMethod ov "__init__" (do return (← importBound (.Call (.Name "super" p0) [] [] p1) env).getD true))
      callWith p4 g first (backTo p4 (starEach [.Name par p3] env)) []) := by
  show (do
    let ov ← attributeBase (.Call (.Name "super" p0) [] [] p1) "__init__" env (eval (.Call (.Name "super" p0) [] [] p1) env)
    standAt p2.atName
    methodCall (.Call (.Name "super" p0) [] [] p1) "__init__" p2 p4 env ov 1 (backTo p4 (starEach [.Name par p3] env)) (backToKw p4 (keywordEach [] env))) = _
  have e : methodCallForm 1 (backTo p4 (starEach [.Name par p3] env)) (backToKw p4 (keywordEach [] env)) = true := rfl
  have e2 : methodCallPos true (.Call (.Name "super" p0) [] [] p1) env p2 p4 = pure p4 := by
    unfold methodCallPos
    rw [h]; rfl
  unfold methodCall
  rw [e, e2]
  rfl
def spI (C : Addr) (fld : Str) : Sp := fun vs H Q _ => ∃ (a : Addr) (y : V), vs = [.ref a, y] ∧ H a = some (exo a C none) ∧ ∀ dx, H dx = none → dx ≠ a → Q .non (upd (upd H dx (exd dx [(fld, y)])) a (exo a C (some dx)))
theorem ns1_one {g : Heap} {dx : Addr} {hs : Int} {tk : Tok} {nm : Str} {u : Value} {n : Nat} (e : g.get? dx = some (dictOf [⟨hs, .str nm tk, u⟩] n)) : g.Ns1 dx fun x => if x = nm then some u else none := by
  refine ⟨_, _, _, e, rfl, fun d hd => ?_, ?_, fun x => ?_⟩
  · simp only [List.mem_toArray, List.mem_singleton] at hd
    subst hd
    exact ⟨_, _, rfl⟩
  · simp [UniqKeys]
  · simp only [nsFind, findBy]
    by_cases z : x = nm
    · subst z
      simp [Value.isStr]
    · have z2 : (Value.str nm tk).isStr x = false := by
        cases e : (Value.str nm tk).isStr x with
        | false => rfl
        | true => exact absurd (Value.isStr_inj _ _ _ e (by simp [Value.isStr])) z
      simp [z, z2]
structure IniOk (P : Program) (w : World) (K : PySem.W.Frag) (mg : Str → Option Value) (base : Heap) (CX : CXT) (f : Addr) (fd : FuncData) (ps : List Str) (sp : Sp) : Prop where
  len : ∀ vs H Q E, sp vs H Q E → vs.length = ps.length
  run : ∀ (A : Around) (outer : List Env) (s : Shared) (H : Hp) (args : Args) (us : List Value) (vs : List V) (Q : VK) (E : XK), A.depth < recursionLimit → Env0 P w K mg base A outer s H → BindsTo s fd args (ps.zip us) → Vals vs us → sp vs H Q E → codeAny (model P w) A (.call (.ref f) args) (CR CX outer P w H s Q E) s
theorem ec_init {CX : CXT} {vs : Array Value} {file : Str} {tf : Tok} {oc ccl cl dV kV doc pm ct : Value} {od an cdd cld : Option Addr} {osl ccs csl : Array (Option Value)}
    (T : Ec P K C B newId initId bmB fld par body scope params) (hns : mg ("super" : Str) = none) (hcd : PySem.W.codeIn K (.ref cda) qual = true)
    (lf : K.lookup f = some ⟨oc, od, .func (ksFn nm qual params body scope dV kV doc pm an (.ref cda) ct cc), osl⟩)
    (lc : K.lookup cda = some ⟨ccl, cdd, .fields vs, ccs⟩) (hvs : vs[2]? = some (.str file tf)) (hfile : ((P.main.file : Str) == file) = true) (lcell : K.lookup cc = some ⟨cl, cld, .cell (some (.ref C)), csl⟩)
    (hnc : ∀ x ∈ scope.names, x.2 ≠ .cell) (hco : scope.isCoroutine = false) (hgen : scope.isGenerator = false) :
    IniOk P w K mg base CX f (ksFn nm qual params body scope dV kV doc pm an (.ref cda) ct cc) ["self", par] (spI C fld) := by
  refine ⟨fun vs H Q E ⟨a, y, e, _⟩ => by rw [e]; rfl, fun A outer s H args us vs' Q E hr e0 hb r hsp => ?_⟩
  obtain ⟨a, y, rfl, ha, hq⟩ := hsp
  obtain ⟨u, rfl, ry⟩ : ∃ u, us = [.ref a, u] ∧ RelV y u := by
    cases r with
    | cons r1 r2 =>
      cases r2 with
      | cons r3 r4 =>
        cases r4
        exact ⟨_, by rw [show _ = Value.ref a from r1], r3⟩
  have hl : s.heap.NoLimit := e0.mod.nolimit.keeps fun b o e => (e0.bs b o e).1
  have KX : K.In s.heap := e0.mod.kin.keeps fun b o e => (e0.bs b o e).1
  obtain ⟨t1, hoa⟩ := exo_at e0.hok ha
  have nb : ∀ b o, base.get? b = some o → b ≠ a := fun b o e z => by
    have := (e0.bs b o e).2
    rw [z, ha] at this; cases this
  obtain ⟨p0, p1, p2, p3, p4, p5, p6, p7, p8, p9, hbd, hpos⟩ := T.bd
  refine PySem.ks_codeAny_call_defAt (body := body) (binds := [("self", .ref a), (par, u)]) hr (KX _ _ lf) rfl hl (PySem.W.codeRec_of KX hcd) rfl hb hnc (fun x hx => ?_) (fun g hg hk => ?_) hco hgen T.sk
  · simp only [List.mem_cons, List.not_mem_nil, or_false] at hx
    rcases hx with rfl | rfl
    · exact T.ka
    · exact T.kp
  subst hbd
  let h0 := PySem.W.hideAll s.heap [a]
  let m0 : Str → Option Value := fun x => [(("self" : Str), Value.ref a), (par, u)].reverse.lookup x
  have ms : m0 ("self" : Str) = some (.ref a) := by
    show [(par, u), (("self" : Str), Value.ref a)].lookup ("self" : Str) = _
    have z : (("self" : Str) == par) = false := by simpa using fun z => T.pne z.symm
    simp [List.lookup, z]
  have mp : m0 par = some u := by
    show [(par, u), (("self" : Str), Value.ref a)].lookup par = _
    simp [List.lookup]
  have kb : ∀ b o, s.heap.get? b = some o → b ≠ a → h0.get? b = some o := fun b o e n => PySem.W.hideAll_get _ e (by simpa using n)
  have M0 : Mod K mg h0 := ⟨fun b o e => by
      have z := e0.mod.kin b o e
      exact kb b o (e0.bs b o z).1 (nb b o z), e0.mod.glob.keeps fun b o z => kb b o (e0.bs b o z).1 (nb b o z), ?_, e0.mod.nolimit.keeps fun b o z => kb b o (e0.bs b o z).1 (nb b o z)⟩
  · have F0 : Fr h0 s.heap.objs.size g m0 := ⟨hg, fun b o e => hk b o (PySem.W.of_hideAll _ e), Nat.le_of_eq (PySem.W.hideAll_size _ _)⟩
    have la : a < s.heap.objs.size := Heap.lt_size hoa
    have N0 : News h0 s.heap.objs.size g [(a, excObj C t1 none .none)] := fun p hp => by
      simp only [List.mem_singleton] at hp
      subst hp
      exact ⟨hk _ _ hoa, Nat.ne_of_lt la, PySem.W.hideAll_none _ (by simp)⟩
    have I0 : InstAt g a (excObj C t1 none .none) C none := ⟨hk _ _ hoa, rfl, rfl, trivial⟩
    refine PySem.ks_wpAt_execs_cons (PySem.ks_wpAt_Expr_any (PySem.ks_wpAt_MethodCall ?_ (sup_eval hpos _)) (hi := by show (scope.kind == _ && _) = false; rw [T.sk]; rfl))
    · refine xc_super T M0 F0 N0 hns lf rfl ms I0 lc hvs hfile lcell fun so g1 F1 N1 l1 => ?_
      have sa : so ≠ a := fun z => absurd (l1 (a, excObj C t1 none .none) (by simp)) (by rw [z]; exact Nat.lt_irrefl _)
      have I1 : InstAt g1 a (excObj C t1 none .none) C none := ⟨(N1 (a, excObj C t1 none .none) (by simp)).1, rfl, rfl, trivial⟩
      refine PySem.W.kxs_method T.KF F1 M0.kin N1 List.mem_cons_self I1 T.n3 T.sup T.sB rfl fun u1 g2 F2 N2 l2 => ?_
      have ua : u1 ≠ a := fun z => absurd (l2 (a, excObj C t1 none .none) (by simp)) (by rw [z]; exact Nat.lt_irrefl _)
      refine PySem.W.kxs_callWith1 N2 List.mem_cons_self (spliced_cons ?_)
      refine wpAny_Name (wpAny_loadName_local T.sk T.kp F2.ns mp ?_) T.dbg
      refine spliced_nil ⟨PySem.W.kxs_at N2 List.mem_cons_self, ?_⟩
      refine PySem.W.kxs_call F2 M0.kin N2 T.FB T.iq List.mem_cons_self (UpdF.tail ua (UpdF.tail sa (UpdF.head fun _ h => nomatch h))) (by simp [sizeLine_eq]) fun t2 g3 F3 N3 l3 => ?_
      have ta : t2 ≠ a := fun z => absurd (l3 (a, excObj C t1 none .none) (by simp)) (by rw [z]; exact Nat.lt_irrefl _)
      refine PySem.ks_wpAt_execs_cons (PySem.ks_wpAt_Assign_Attr (wpAt_of_wpAny (wpAny_Name (wpAny_loadName_local T.sk T.kp F3.ns mp ?_) T.dbg)) ?_)
      · refine wpAny_Name (wpAny_loadName_local T.sk T.ka F3.ns ms ?_) (by decide)
        refine PySem.W.set_exc0 T.SF F3 M0.kin N3 (by simp) T.sa T.ov T.tk T.hd rfl (UpdF.tail ta (UpdF.tail ua (UpdF.tail sa (UpdF.head fun _ h => nomatch h)))) (by simp [PySem.W.putL]) fun dx g4 F4 N4 l4 => ?_
        refine wpAt_of_wpAny ?_
        rw [execs_nil]
        refine wpAny_pure ?_
        show CE outer P w H s Q .none _
        have xa : dx ≠ a := fun z => absurd (l4 (a, excObj C t2 none .none) (by simp)) (by rw [z]; exact Nat.lt_irrefl _)
        have hx := N4 (dx, _) List.mem_cons_self
        have he := N4 (a, excObj C t2 (some dx) .none) (by simp)
        have dn : s.heap.get? dx = none := by
          cases z : s.heap.get? dx with
          | none => rfl
          | some o =>
            have q := kb dx o z xa
            rw [hx.2.2] at q; cases q
        have hnd : H dx = none := e0.hok.gone dn
        have kk : ∀ b o, b ≠ a → s.heap.get? b = some o → g4.get? b = some o := fun b o n z => F4.keep b o (kb b o z n)
        have nd : ∀ {b : Addr} {o : Obj}, s.heap.get? b = some o → b ≠ dx := fun {b o} z e => by rw [e, dn] at z; cases z
        have na : ∀ {b : Addr}, H b = none → b ≠ a := fun {b} n z => by rw [z, ha] at n; cases n
        refine ⟨.non, upd (upd H dx (exd dx [(fld, y)])) a (exo a C (some dx)), rfl, e0.bare, ?_, ?_, rfl, hq dx hnd xa⟩
        · exact {
            keep := fun b o z n _ _ => kk b o (na n) z
            slot := fun b o z n _ _ => ⟨o.slots, kk b o (na n) z⟩
            free := fun b o z n _ => by rw [upd_ne (na n), upd_ne (nd z), n]
            there := fun b o z _ => by
              rcases Classical.em (b = a) with h | h
              · exact ⟨_, by rw [h]; exact he.1⟩
              · exact ⟨o, kk b o h z⟩
            tups := fun b l z => by rw [upd_ne (at_ne ha z exo_tup), upd_ne (ne_of_none z hnd), z]
            frzs := fun b o l z => by rw [upd_ne (at_ne ha z exo_frz), upd_ne (ne_of_none z hnd), z]
            tbls := fun b l z => ⟨#[], by rw [upd_ne (at_ne ha z exo_tbl), upd_ne (ne_of_none z hnd), z, Array.append_empty]⟩ }
        · intro b o z
          rcases Classical.em (b = a) with h | h
          · subst h
            rw [upd_same] at z
            cases z
            exact exo_ok he.1
          rw [upd_ne h] at z
          rcases Classical.em (b = dx) with h2 | h2
          · subst h2
            rw [upd_same] at z
            cases z
            exact exd_ok (ns1_one hx.1) (relO_put (fs := []) ry fun _ => True.intro)
          rw [upd_ne h2] at z
          refine (e0.hok b o z).stay (fun c v hc q => kk c v ?_ q) (fun c hc => ?_) fun c l hc => ?_
          · rcases hc with rfl | hc
            · exact h
            · exact at_ne ha hc exo_own
          · rw [upd_ne (at_ne ha hc exo_own), upd_ne (ne_of_none hc hnd), hc]
          · rw [upd_ne (at_ne ha hc exo_tup), upd_ne (ne_of_none hc hnd), hc]
      · rfl
  · obtain ⟨mb, z1, z2⟩ := e0.mod.blt
    exact ⟨mb, z1.keeps fun b o z => kb b o (e0.bs b o z).1 (nb b o z), z2⟩
end
end Q
set_option Elab.async false
set_option linter.all false
set_option maxRecDepth 100000
set_option maxHeartbeats 4000000
namespace Q
open PySem PySem.Spec PySem.Calls PyProof.Rows L2
structure Eo (P : Program) (w : World) (K : PySem.W.Frag) (mg : Str → Option Value) (base : Heap) (C : Addr) (fld : Str) (B newId initId : String) (bmB : List Value) : Prop where
  FB : ExcBaseFacts B newId initId bmB
  iq : PySem.W.excInitIn K C bmB newId = true
  kC : PySem.W.keepIn K (.ref C) = true
  exC : PySem.W.subIn K (.ref C) (.type "BaseException") = some true
  tyC : PySem.W.typeIn K (.ref C) = some (.type "type")
  ini : ∃ (f : Addr) (fd : FuncData) (ps : List Str), PySem.W.findIn K (.ref C) "__init__" = some (some (.ref f)) ∧ PySem.W.typeIn K (.ref f) = some (.type "function") ∧ IniOk P w K mg base (L2.CX P w) f fd ps (spI C fld) ∧ Binds K fd ps []
section
variable {X : Cx} {C : Addr} {fld x : Str} {B newId initId : String} {bmB : List Value} {k : Nat} {e : Expr} {ta : TA} {p pos : Pos}
end
end Q
set_option Elab.async false
set_option linter.all false
set_option maxRecDepth 100000
set_option maxHeartbeats 4000000
namespace Q
open PySem PySem.Spec PyProof.Rows L2
structure Czz where
  c : Value
  ts : Addr → Value → Option Addr → TS
  slot : Option Nat
def eOff (o : Option Nat) (D : Ends) : Ends := match o with
  | none => D
  | some i => { nx := fun σ H => D.nx (σ.set i none) H, rt := D.rt, bk := fun σ H => D.bk (σ.set i none) H, ct := fun σ H => D.ct (σ.set i none) H }
def sOn (o : Option Nat) (a : Addr) (σ : Sl) : Sl := match o with
  | none => σ
  | some i => σ.set i (some (.ref a))
inductive ClOk (X : Cx) : ExceptHandler → Czz → Prop
  | bare {x : Str} {c : Value} {ts : Addr → Value → Option Addr → TS} {b₀ : Stmt} {su : List Stmt} {np q : Pos} (hc : Names X x c)
      (h : ∀ (a : Addr) (oe : Obj) (cls : Value) (d : Option Addr) (pn : List (Addr × Obj)), Zc cls d oe → (∃ vs, oe.data = .fields vs) → PSs (X.suite a ((a, oe) :: pn)) (b₀ :: su) (ts a cls d)) : ClOk X (.ExceptHandler (some (.Name x np)) none (b₀ :: su) q) ⟨c, ts, none⟩
  | named {x n : Str} {i : Nat} {c : Value} {ts : Addr → Value → Option Addr → TS} {b₀ : Stmt} {su : List Stmt} {np q : Pos} (hc : Names X x c) (hi : X.N[i]? = some n) (hl : X.env.kindOf n = some .local)
      (h : ∀ (a : Addr) (oe : Obj) (cls : Value) (d : Option Addr) (pn : List (Addr × Obj)), Zc cls d oe → (∃ vs, oe.data = .fields vs) → PSs (X.suite a ((a, oe) :: pn)) (b₀ :: su) (ts a cls d)) : ClOk X (.ExceptHandler (some (.Name x np)) (some n) (b₀ :: su) q) ⟨c, ts, some i⟩
inductive ClsOk (X : Cx) : List ExceptHandler → List Czz → Prop
  | nil : ClsOk X [] []
  | cons {h : ExceptHandler} {z : Czz} {hs : List ExceptHandler} {zs : List Czz} : ClOk X h z → ClsOk X hs zs → ClsOk X (h :: hs) (z :: zs)
section
variable {X : Cx} {body : List Stmt} {hd0 : ExceptHandler} {hds : List ExceptHandler} {zs : List Czz} {pos : Pos} {tb : WX → TS} {W : WX}
end
end Q
set_option Elab.async false
set_option linter.all false
set_option maxRecDepth 100000
set_option maxHeartbeats 1000000
namespace Q
open PySem PySem.Spec PyProof.Rows L2
structure Xf (P : Program) (w : World) (K : PySem.W.Frag) (mg : Str → Option Value) (base : Heap) (x : Str) (C : Addr) (fld : Str) : Prop where
  gC : mg x = some (.ref C)
  eo : ∃ B newId initId bmB, Eo P w K mg base C fld B newId initId bmB
section
variable {X : Cx} {c : Fx} {W : WX}
end
end Q
set_option Elab.async false
set_option linter.all false
set_option maxRecDepth 100000
set_option maxHeartbeats 1000000
namespace Q
open PySem PySem.Spec PyProof.Rows L2
abbrev Fd := List (Str × D)
theorem lookupD {f n : Str} {e : D} {fd : Fd} : ((n, e) :: fd).lookup f = if f = n then some e else fd.lookup f := by
  by_cases h : f = n
  · subst h
    simp [List.lookup]
  · have e : (f == n) = false := by simpa using h
    rw [if_neg h]
    simp [List.lookup, e]
section
variable {X : Cx} {c : Fx} {i k : Nat} {e : Expr} {es : List Expr} {g : Fd → Option D} {gs : Fd → Option (List D)}
end
end Q
set_option Elab.async false
set_option linter.all false
set_option maxRecDepth 100000
set_option maxHeartbeats 1000000
namespace Q
open PySem PySem.Spec PyProof.Rows L2
structure Hc where
  k : Nat
  slot : Option Nat
  fs : Fd → FS
def fPick : List Hc → Exn → FS
  | [], e => fun env μ => .exc e env μ
  | h :: r, e => fun env μ => if e.cls = h.k then (match h.slot with
      | none => (h.fs e.fs env μ).nx
      | some i => if i < env.length then (h.fs e.fs (env.set i .un) μ).unb i else .bad) else fPick r e env μ
structure ClD (X : Cx) (c : Fx) (cs : List Nat) (h : ExceptHandler) (z : Czz) (hc : Hc) : Prop where
  ok : ClOk X h z
  sl : z.slot = hc.slot
  ex : ∀ j ∈ cs, PySem.W.exmOne X.K (.ref (c.C j)) z.c = some (decide (j = hc.k))
  sem : ∀ (e : Exn) (σ : Sl) (H G : Hp) (env : En) (μ : Mu) (D : Ends) (d : Option Addr) (a : Addr), e.cls = hc.k → FRel c σ H G env μ → XDat c H G (.ref (c.C hc.k)) d e → sG c W0 G (fPick [hc] e env μ) D → z.ts a (.ref (c.C hc.k)) d (eOff z.slot D) (sOn z.slot a σ) H
inductive ClsD (X : Cx) (c : Fx) (cs : List Nat) : List ExceptHandler → List Czz → List Hc → Prop
  | nil : ClsD X c cs [] [] []
  | cons {h : ExceptHandler} {z : Czz} {hc : Hc} {hs : List ExceptHandler} {zs : List Czz} {hcs : List Hc} : ClD X c cs h z hc → ClsD X c cs hs zs hcs → ClsD X c cs (h :: hs) (z :: zs) (hc :: hcs)
section
variable {X : Cx} {c : Fx} {W : WX} {cs : List Nat}
theorem ClsD.ok {hs : List ExceptHandler} {zs : List Czz} {hcs : List Hc} (h : ClsD X c cs hs zs hcs) : ClsOk X hs zs := by
  induction h with
  | nil => exact .nil
  | cons h _ ih => exact .cons h.ok ih
end
end Q
set_option Elab.async false
set_option linter.all false
set_option maxRecDepth 100000
set_option maxHeartbeats 1000000
namespace Q
open PySem PySem.Spec PyProof.Rows L2
open PySem.W (ksFn KxsFacts excInitIn excOver ks_superIn)
structure InS (st : Stmt) (fld par : Str) : Prop where
  ks : (defScope st).names.lookup ("super" : Str) = some .globalImplicit
  kc : (defScope st).names.lookup ("__class__" : Str) = some .free
  ka : (defScope st).names.lookup ("self" : Str) = some .local
  kp : (defScope st).names.lookup par = some .local
  sk : (defScope st).kind = .function
  pne : par ≠ ("self" : Str)
  pa : ((defArgs st).posonlyargs ++ (defArgs st).args).head?.map (·.arg) = some ("self" : Str)
  bd : ∃ p0 p1 p2 p3 p4 p5 p6 p7 p8 p9, defBody st = [.Expr (.Call (.Attribute (.Call (.Name "super" p0) [] [] p1) "__init__" p2) [.Name par p3] [] p4) p5, .Assign [.Attribute (.Name "self" p6) fld p7] (.Name par p8) p9] ∧ (p2.endLine == p4.line) = true
  dbg : (par == ("__debug__" : Str)) = false
  hnc : ∀ x ∈ (defScope st).names, x.2 ≠ .cell
  hco : (defScope st).isCoroutine = false
  hgen : (defScope st).isGenerator = false
theorem xf_mk {P : Program} {w : World} {K : PySem.W.Frag} {h : Heap} {mg : Str → Option Value} {base : Heap} {x fld par nm qual : Str} {st : Stmt} {C f cda cc : Addr} {bmB : List Value} {vs : Array Value} {file : Str} {tf : Tok} {oc ccl cl dV kV doc pm ct : Value} {od an cdd cld : Option Addr} {osl ccs csl : Array (Option Value)}
    {Bs newS initS : String} (FB : ExcBaseFacts Bs newS initS bmB) (KF : KxsFacts Bs initS) (SF : StoreFacts Bs bmB "object.__setattr__" "object") (S : InS st fld par) (X : K.In h) (G : h.Ns mainGlobals mg)
    (y0 : PySem.W.nsIn K mainGlobals x = some (some (.ref C))) (y1 : PySem.W.keepIn K (.ref C) = true) (y2 : PySem.W.subIn K (.ref C) (.type "BaseException") = some true) (y3 : PySem.W.typeIn K (.ref C) = some (.type "type"))
    (y4 : excInitIn K C bmB newS = true) (y5 : excOver K C bmB = true) (y6 : PySem.W.findIn K (.ref C) "__setattr__" = some (some (.builtin "object.__setattr__"))) (y7 : PySem.W.takerIn K C fld = some none) (y8 : PySem.W.hasDictIn K C = true)
    (y9 : ks_superIn K C C "__init__" = some (some (.builtin initS))) (y10 : PySem.W.subIn K (.ref C) (.type Bs) = some true) (y11 : PySem.W.mroIn K C (.ref C) = some true) (y12 : PySem.W.nsIn K cStatics "thirdparty.any" = some none) (y13 : PySem.W.nsIn K mainGlobals "super" = some none)
    (y14 : PySem.W.findIn K (.ref C) "__init__" = some (some (.ref f))) (y15 : PySem.W.typeIn K (.ref f) = some (.type "function")) (y16 : K.lookup f = some ⟨oc, od, .func (ksFn nm qual (defArgs st) (defBody st) (defScope st) dV kV doc pm an (.ref cda) ct cc), osl⟩)
    (y17 : PySem.W.codeIn K (.ref cda) qual = true) (y18 : K.lookup cda = some ⟨ccl, cdd, .fields vs, ccs⟩) (y19 : vs[2]? = some (.str file tf)) (y20 : ((P.main.file : Str) == file) = true) (y21 : K.lookup cc = some ⟨cl, cld, .cell (some (.ref C)), csl⟩) (y22 : (P.main.scope.names.lookup ("super" : Str)).isSome = false)
    (hb : Binds K (ksFn nm qual (defArgs st) (defBody st) (defScope st) dV kV doc pm an (.ref cda) ct cc) ["self", par] []) : Xf P w K mg base x C fld :=
  ⟨PySem.W.mg_of X G y0, Bs, newS, initS, bmB, FB, y4, y1, y2, y3, f, _, ["self", par], y14, y15,
    ec_init (T := ⟨FB, KF, SF, y4, y5, y6, y7, y8, y9, y10, y11, y12, y22, S.ks, S.kc, S.ka, S.kp, S.sk, S.pne, S.pa, S.bd, S.dbg⟩) (PySem.W.mg_none_of X G y13) y17 y16 y18 y19 y20 y21 S.hnc S.hco S.hgen, hb⟩
section
variable {K : PySem.W.Frag} {C : Nat → Addr} {k : Nat} {cv : Value}
end
end Q
namespace Q
open PySem
def clsDef : Stmt → Stmt
  | .ClassDef _ _ _ b .. => b.getD 0 (.Pass ⟨0, 0, 0, 0⟩)
  | s => s
end Q
set_option Elab.async false
set_option linter.all false
set_option maxRecDepth 100000
set_option maxHeartbeats 1000000
namespace Q
open PySem PySem.Spec PyProof.Rows L2
section
variable {X : Cx} {c : Fx} {W : WX}
end
end Q
namespace Ev
open Q
variable {env env' : En} {μ : Mu} {ds : List D} {d : D} {i y : Nat}
end Ev
set_option Elab.async false
set_option linter.all false
set_option maxRecDepth 100000
set_option maxHeartbeats 1000000
namespace Q
open PySem PySem.Spec PyProof.Rows L2
section
variable {X : Cx} {c : Fx} {W : WX}
end
end Q
set_option Elab.async false
set_option linter.all false
set_option maxRecDepth 100000
set_option maxHeartbeats 1000000
namespace Q
open PySem PySem.Spec PyProof.Rows L2
section
variable {X : Cx} {c : Fx} {W : WX}
end
end Q
set_option Elab.async false
set_option linter.all false
set_option maxRecDepth 100000
set_option maxHeartbeats 1000000
namespace Q
open PySem PySem.Spec PyProof.Rows L2
end Q
set_option Elab.async false
set_option linter.all false
set_option maxRecDepth 100000
set_option maxHeartbeats 1000000
namespace Q
open PySem PySem.Spec PyProof.Rows L2
section
variable {X : Cx} {c : Fx} {W : WX}
end
end Q
set_option Elab.async false
set_option linter.all false
set_option maxRecDepth 100000
set_option maxHeartbeats 4000000
namespace Q
open PySem PySem.Spec PyProof.Rows L2
section
variable {P : Program} {w : World} {A : Around} {E : Value → Shared → Prop} {s : Shared}
end
section
variable {X : Cx} {c : Fx} {W : WX}
end
end Q
set_option Elab.async false
set_option linter.all false
set_option maxRecDepth 100000
set_option maxHeartbeats 1000000
namespace Q
open PySem PySem.Spec PyProof.Rows L2
section
variable {X : Cx} {c : Fx} {W : WX} {σ : Sl} {H G : Hp} {env : En} {μ : Mu}
end
end Q
set_option Elab.async false
set_option linter.all false
set_option maxRecDepth 100000
set_option maxHeartbeats 1000000
namespace Q
open PySem PySem.Spec PyProof.Rows L2
section
variable {X : Cx} {c : Fx} {W : WX}
end
end Q
namespace Ev
open Q
variable {env : En} {μ : Mu} {ds : List D} {d : D} {n y : Nat}
end Ev
set_option Elab.async false
set_option linter.all false
set_option maxRecDepth 100000
set_option maxHeartbeats 4000000
namespace Q
open PySem PySem.Spec PyProof.Rows L2
section
variable {X : Cx} {c : Fx} {W : WX}
end
end Q
namespace Ev
open Q
variable {env env' : En} {μ μ1 : Mu} {ds es : List D} {fe : FE} {i : Nat} {k : Int}
end Ev
set_option Elab.async false
set_option linter.all false
set_option maxRecDepth 100000
set_option maxHeartbeats 4000000
namespace Q
open PySem PySem.Spec PyProof.Rows L2
open PySem.W (dataLt alike AlikeAll minD)
section
variable {X : Cx} {c : Fx} {W : WX}
end
end Q
namespace Ev
open Q
variable {env : En} {μ μ1 : Mu} {ds : List D} {f : FE}
end Ev
set_option Elab.async false
set_option linter.all false
set_option maxRecDepth 100000
set_option maxHeartbeats 4000000
namespace Q
open PySem PySem.Spec PyProof.Rows L2
def intsOf : List D → Option (List Int)
  | [] => some []
  | .int i :: ds => (intsOf ds).map (i :: ·)
  | _ => none
theorem intsOf_map : ∀ is : List Int, intsOf (is.map D.int) = some is
  | [] => rfl
  | i :: is => by simp only [List.map_cons, intsOf, intsOf_map is, Option.map_some]
theorem intsOf_some : ∀ {ks : List D} {is : List Int}, intsOf ks = some is → ks = is.map D.int
  | [], is, h => by cases h; rfl
  | .int i :: ds, is, h => by
    simp only [intsOf] at h
    obtain ⟨js, h1, rfl⟩ := Option.map_eq_some_iff.mp h
    rw [intsOf_some h1]; rfl
  | .non :: _, _, h => by cases h
  | .bl _ :: _, _, h => by cases h
  | .str _ :: _, _, h => by cases h
  | .tup _ :: _, _, h => by cases h
  | .lst _ :: _, _, h => by cases h
  | .frz _ :: _, _, h => by cases h
  | .loc _ :: _, _, h => by cases h
  | .ty _ :: _, _, h => by cases h
  | .dct _ _ :: _, _, h => by cases h
  | .exc _ _ _ :: _, _, h => by cases h
def DctH (a : Addr) (is : List Int) (h : Heap) : Prop := (a == sysModules) = false ∧ is.length ≤ sizeLine ∧ ∀ (P : Program) (w : World), ∃ vs : List (L2.Key × Value), vs.map (·.1) = is.map Sum.inl ∧ (∀ p ∈ vs, p.2 = Value.bool true) ∧ h.DictOf (mixKind P w) a vs
def IsDI (H : Hp) (a : Addr) (is : List Int) : Prop := H a = some (DctI a is) ∨ (is = [] ∧ ∃ w bs vs, H a = some (DctO w a [] bs vs))
section
variable {X : Cx} {pins : List (Addr × Obj)} {σ : Sl} {H G : Hp} {s : Shared}
theorem IsDI.at (I : Inv X pins σ H s) {a : Addr} {is : List Int} (h : IsDI H a is) : DctH a is s.heap := by
  rcases h with h | ⟨rfl, w0, bs, vs, h⟩
  · exact (I.hok a _ h).1
  · obtain ⟨⟨us, r, hs, l1, l2, nd, sz, o, es, ep, ho, hx, hd, he⟩, _⟩ := I.hok a _ h
    refine ⟨hs, Nat.zero_le _, fun P w => ⟨[], rfl, fun p hp => (by cases hp), o, es, ep, ho, hx, hd, ?_, ?_, List.nodup_nil⟩⟩
    · intro e me
      have := he P
      simp only [List.zip_nil_left, List.map_nil] at this
      have : e ∈ es.toList := by simpa using me
      rw [‹es.toList = []›] at this
      cases this
    · have := he P
      simp only [List.zip_nil_left, List.map_nil] at this
      rw [this]
      exact .nil
theorem IsDI.mut {a : Addr} {is : List Int} (h : IsDI H a is) : ∃ φ, H a = some (.ext φ) := by
  rcases h with h | ⟨_, w0, bs, vs, h⟩
  · exact ⟨_, h⟩
  · exact ⟨_, h⟩
end
section
variable {X : Cx} {c : Fx} {W : WX} {σ : Sl} {H G : Hp} {env : En} {μ : Mu}
theorem DicF.ints {K : KW} {L : List Addr} {a : Addr} {o : HO} {ks ds : List D} {is : List Int} (h : DicF K G L a o ks ds) (e : intsOf ks = some is) : o = DctI a is ∨ (is = [] ∧ ∃ w bs vs, o = DctO w a [] bs vs) := by
  have ek := intsOf_some e
  rcases h with ⟨bs, vs, h1, h2, h3, h4⟩ | ⟨js, h1, h2, h3, h4⟩
  · cases is with
    | nil => subst ek; exact .inr ⟨rfl, _, bs, vs, h1⟩
    | cons i is => subst ek; simp [kOk1] at h2
  · have : js = is := by
      rw [h3] at e
      rw [intsOf_map] at e
      injection e
    subst this
    exact .inl h2
end
end Q
set_option Elab.async false
set_option linter.all false
set_option maxRecDepth 100000
set_option maxHeartbeats 4000000
namespace Q
open PySem PySem.Spec PyProof.Rows L2
section
variable {X : Cx} {c : Fx} {W : WX}
end
end Q
namespace Ev
open Q
variable {env : En} {μ μ1 : Mu} {n : Nat} {f : FE}
end Ev
set_option Elab.async false
set_option linter.all false
set_option maxRecDepth 100000
set_option maxHeartbeats 4000000
namespace Kx
open PySem PySem.Spec PyProof.Rows L2 Q
abbrev KK : Nat := 60
abbrev g_LONGEST : D := .int 8
abbrev g_LONGEST_FORM : D := .int 4
abbrev g_SIGNS : D := .str "abcdefghijklmnopqrstuvwxyz"
def b0 (r : Nat → RunF) : FS := (fSeq (fIfS (fOr (fNot (fTT (fIsi ["str"] (fVar 0)))) (fNot (fTB (fCh (cmpI .LtE) (cmpI .LtE) (fC (.int 1)) (fCall gLen (fConsr (fVar 0) fNilr)) (fC g_LONGEST))))) (fRet (fMv (fC (.bl false)))) fNext)
    (fRet (fMv (fCall gAll (fConsr (fLc (fAny (fVar 0)) (.nm 1) fYes (fB (gIn false) (fVar 1) (fC g_SIGNS)) [1]) fNilr)))))
def b1 (r : Nat → RunF) : FS := (fRet (fMv (fIf (fTT (fIsi ["list", "tuple"] (fVar 0))) (fCall gTuple (fConsr (fLc (fAny (fVar 0)) (.nm 1) fYes (fFn 1 (r 1) (fCons (fVar 1) fNil)) [1]) fNilr)) (fVar 0))))
def b2 (r : Nat → RunF) : FS := (fSeq (fIfS (fNot (fTT (fIsi ["tuple"] (fVar 0)))) (fRet (fMv (fC (.bl false)))) fNext)
    (fSeq (fIfS (fTB (fB gEq (fCall gLen (fConsr (fVar 0) fNilr)) (fC (.int 0)))) (fRet (fMv (fC (.bl true)))) fNext)
    (fSeq (fIfS (fOr (fTB (fB gGt (fCall gLen (fConsr (fVar 0) fNilr)) (fC g_LONGEST_FORM))) (fNot (fTT (fFn 1 (r 0) (fCons (fB gIx (fVar 0) (fC (.int 0))) fNil))))) (fRet (fMv (fC (.bl false)))) fNext)
    (fRet (fMv (fCall gAll (fConsr (fLc (fAny (fSl gSl (fVar 0) (fSomeO (fC (.int 1))) fNoO)) (.nm 1) fYes (fFn 1 (r 2) (fCons (fVar 1) fNil)) [1]) fNilr)))))))
def b3 (r : Nat → RunF) : FS := (fRet (fMv (fOrV (fB gNe (fCall gLen (fConsr (fVar 0) fNilr)) (fCall gLen (fConsr (fVar 1) fNilr))) (fB gNe (fB gIx (fVar 0) (fC (.int 0))) (fB gIx (fVar 1) (fC (.int 0)))))))
def b4 (r : Nat → RunF) : FS := (fSeq (fIfS (fTB (fB gEq (fCall gLen (fConsr (fVar 0) fNilr)) (fC (.int 0)))) (fRet (fMv (fC (.bl true)))) fNext)
    (fSeq (fIfS (fOr (fTB (fB gEq (fCall gLen (fConsr (fVar 1) fNilr)) (fC (.int 0)))) (fTT (fFn 2 (r 3) (fCons (fVar 0) (fCons (fVar 1) fNil))))) (fRet (fMv (fC (.bl false)))) fNext)
    (fRet (fMv (fCall gAll (fConsr (fLc (fZp (fSl gSl (fVar 0) (fSomeO (fC (.int 1))) fNoO) (fSl gSl (fVar 1) (fSomeO (fC (.int 1))) fNoO)) (.tp [(.nm 2), (.nm 3)]) fYes (fFn 2 (r 4) (fCons (fVar 2) (fCons (fVar 3) fNil))) [2, 3]) fNilr))))))
def b5 (r : Nat → RunF) : FS := (fSeq (fIfS (fOr (fTB (fB gEq (fCall gLen (fConsr (fVar 0) fNilr)) (fC (.int 0)))) (fTB (fB gEq (fCall gLen (fConsr (fVar 1) fNilr)) (fC (.int 0))))) (fRet (fMv (fC (.bl true)))) fNext)
    (fSeq (fIfS (fTT (fFn 2 (r 3) (fCons (fVar 0) (fCons (fVar 1) fNil)))) (fRet (fMv (fC (.bl false)))) fNext)
    (fRet (fMv (fCall gAll (fConsr (fLc (fZp (fSl gSl (fVar 0) (fSomeO (fC (.int 1))) fNoO) (fSl gSl (fVar 1) (fSomeO (fC (.int 1))) fNoO)) (.tp [(.nm 2), (.nm 3)]) fYes (fFn 2 (r 5) (fCons (fVar 2) (fCons (fVar 3) fNil))) [2, 3]) fNilr))))))
def b6 (r : Nat → RunF) : FS := (fSeq (fIfS (fOr (fTB (fB gEq (fCall gLen (fConsr (fVar 0) fNilr)) (fC (.int 0)))) (fTB (fB gEq (fCall gLen (fConsr (fVar 1) fNilr)) (fC (.int 0))))) (fRet (fMv (fC .non))) fNext)
    (fSeq (fIfS (fTT (fFn 2 (r 3) (fCons (fVar 0) (fCons (fVar 1) fNil)))) (fRet (fMv (fTup fNil))) fNext)
    (fSeq (fFor (fEnz (fSl gSl (fVar 0) (fSomeO (fC (.int 1))) fNoO) (fSl gSl (fVar 1) (fSomeO (fC (.int 1))) fNoO)) (.tp [(.nm 2), (.tp [(.nm 4), (.nm 5)])]) (fSeq (fSet 3 (fMv (fFn 2 (r 6) (fCons (fVar 4) (fCons (fVar 5) fNil)))))
    (fIfS (fTB (fB gNotN (fVar 3) (fC .non))) (fRet (fMv (fB gAdd (fTup (fCons (fVar 2) fNil)) (fVar 3)))) fNext)))
    (fRet (fMv (fC .non))))))
def b7 (r : Nat → RunF) : FS := (fSeq (fIfS (fOr (fTB (fB gEq (fCall gLen (fConsr (fVar 0) fNilr)) (fC (.int 0)))) (fTB (fB gEq (fCall gLen (fConsr (fVar 1) fNilr)) (fC (.int 0))))) (fRet (fMv (fIf (fTB (fB gEq (fCall gLen (fConsr (fVar 0) fNilr)) (fC (.int 0)))) (fVar 1) (fVar 0)))) fNext)
    (fRet (fMv (fB gAdd (fTup (fCons (fB gIx (fVar 0) (fC (.int 0))) fNil)) (fCall gTuple (fConsr (fLc (fZp (fSl gSl (fVar 0) (fSomeO (fC (.int 1))) fNoO) (fSl gSl (fVar 1) (fSomeO (fC (.int 1))) fNoO)) (.tp [(.nm 2), (.nm 3)]) fYes (fFn 2 (r 7) (fCons (fVar 2) (fCons (fVar 3) fNil))) [2, 3]) fNilr))))))
def b8 (r : Nat → RunF) : FS := (fSeq (fIfS (fNot (fTT (fFn 2 (r 5) (fCons (fVar 0) (fCons (fVar 1) fNil))))) (fRaise 0) fNext)
    (fRet (fMv (fFn 2 (r 7) (fCons (fFn 1 (r 1) (fCons (fVar 0) fNil)) (fCons (fFn 1 (r 1) (fCons (fVar 1) fNil)) fNil))))))
def b9 (r : Nat → RunF) : FS := (fSeq (fSet 1 (fMv (fTup fNil)))
    (fSeq (fFor (fAny (fVar 0)) (.nm 2) (fSet 1 (fMv (fFn 2 (r 8) (fCons (fVar 1) (fCons (fVar 2) fNil))))))
    (fRet (fMv (fVar 1)))))
def b10 (r : Nat → RunF) : FS := (fSeq (fIfS (fOr (fTB (fB gEq (fCall gLen (fConsr (fVar 0) fNilr)) (fC (.int 0)))) (fOr (fTB (fB gEq (fCall gLen (fConsr (fVar 1) fNilr)) (fC (.int 0)))) (fTT (fFn 2 (r 3) (fCons (fVar 0) (fCons (fVar 1) fNil)))))) (fRet (fMv (fTup fNil))) fNext)
    (fRet (fMv (fB gAdd (fTup (fCons (fB gIx (fVar 0) (fC (.int 0))) fNil)) (fCall gTuple (fConsr (fLc (fZp (fSl gSl (fVar 0) (fSomeO (fC (.int 1))) fNoO) (fSl gSl (fVar 1) (fSomeO (fC (.int 1))) fNoO)) (.tp [(.nm 2), (.nm 3)]) fYes (fFn 2 (r 10) (fCons (fVar 2) (fCons (fVar 3) fNil))) [2, 3]) fNilr))))))
def b11 (r : Nat → RunF) : FS := (fSeq (fSet 2 (fMv (fIf (fTB (fB gLt (fVar 1) (fCall gLen (fConsr (fVar 0) fNilr)))) (fB gIx (fVar 0) (fVar 1)) (fC (.int 0)))))
    (fRet (fMo (fLst (fCons (fB gMul (fCall gAbs (fConsr (fVar 2) fNilr)) (fCall gInt (fConsr (fB gGe (fCall gAbs (fConsr (fVar 2) fNilr)) (fB gPow (fC (.int 10)) (fC (.int 18)))) fNilr))) (fCons (fB gAdd (fB gAdd (fB gMod (fCall gInt (fConsr (fVar 2) fNilr)) (fC (.int 2305843009213693951))) (fB gMul (fC (.int 39373)) (fVar 1))) (fC (.int 1943001))) (fCons (fC (.int 0)) fNil)))))))
def b12 (r : Nat → RunF) : FS := (fSeq (fIfS (fTB (fB gGt (fB gIx (fVar 0) (fC (.int 0))) (fC (.int 0)))) (fSeq (fSet 2 (fMv (fB gMod (fCall gInt (fConsr (fB gIx (fVar 0) (fC (.int 0))) fNilr)) (fVar 1))))
    (fSeq (fSetIx 0 (fB gDiv (fB gIx (fVar 0) (fC (.int 0))) (fVar 1)) (fC (.int 0)))
    (fRet (fMv (fVar 2))))) fNext)
    (fSeq (fSetIx 0 (fB gAdd (fB gIx (fVar 0) (fC (.int 2))) (fC (.int 1))) (fC (.int 2)))
    (fSeq (fSet 3 (fMv (fB gMod (fCall gInt (fConsr (fB gMul (fB gAdd (fB gIx (fVar 0) (fC (.int 1))) (fB gMul (fC (.int 48271)) (fB gIx (fVar 0) (fC (.int 2))))) (fB gAdd (fC (.int 39373)) (fB gIx (fVar 0) (fC (.int 2))))) fNilr)) (fC (.int 2147483647)))))
    (fSeq (fSet 4 (fMv (fB gAdd (fB gMod (fCall gInt (fConsr (fVar 3) fNilr)) (fC (.int 40009))) (fC (.int 7)))))
    (fSeq (fSet 5 (fMv (fB gMod (fCall gInt (fConsr (fB gMul (fB gAdd (fB gAdd (fVar 3) (fB gIx (fVar 0) (fC (.int 2)))) (fB gDiv (fB gIx (fVar 0) (fC (.int 1))) (fC (.int 1000003)))) (fVar 4)) fNilr)) (fC (.int 2147483629)))))
    (fRet (fMv (fB gMod (fCall gInt (fConsr (fB gDiv (fB gMod (fCall gInt (fConsr (fB gAdd (fB gMul (fVar 5) (fC (.int 48271))) (fVar 3)) fNilr)) (fC (.int 2147483587))) (fC (.int 64))) fNilr)) (fVar 1)))))))))
def b13 (r : Nat → RunF) : FS := (fSeq (fSet 2 (fMo (fOrN (fCall gList (fConsr (fSl gSl (fVar 0) fNoO (fSomeO (fVar 1))) fNilr)) (fLst (fCons (fC (.int 0)) fNil)))))
    (fSeq (fFor (fEn (fSl gSl (fVar 0) (fSomeO (fVar 1)) (fSomeO (fC (.int 63))))) (.tp [(.nm 3), (.nm 4)]) (fSeq (fSet 5 (fMv (fB gMod (fCall gInt (fConsr (fVar 3) fNilr)) (fVar 1))))
    (fSetIx 2 (fB gAdd (fB gIx (fVar 2) (fVar 5)) (fB gMul (fVar 4) (fB gAdd (fVar 3) (fC (.int 2))))) (fVar 5))))
    (fRetO 2)))
def b14 (r : Nat → RunF) : FS := (fRet (fMv (fB gIx (fVar 1) (fFn 2 (r 12) (fCons (fVar 0) (fCons (fCall gLen (fConsr (fVar 1) fNilr)) fNil))))))
def b17 (r : Nat → RunF) : FS := (fSeq (fIfS (fTT (fIsi ["list", "tuple"] (fVar 1))) (fSeq (fIfS (fOr (fTB (fB gNe (fIsi ["list"] (fVar 0)) (fIsi ["list"] (fVar 1)))) (fTB (fB gNe (fIsi ["tuple"] (fVar 0)) (fIsi ["tuple"] (fVar 1))))) (fRet (fMv (fC (.bl false)))) fNext)
    (fRet (fMv (fAndV (fB gEq (fCall gLen (fConsr (fVar 0) fNilr)) (fCall gLen (fConsr (fVar 1) fNilr))) (fCall gAll (fConsr (fLc (fZp (fVar 0) (fVar 1)) (.tp [(.nm 2), (.nm 3)]) fYes (fFn 2 (r 17) (fCons (fVar 2) (fCons (fVar 3) fNil))) [2, 3]) fNilr)))))) fNext)
    (fSeq (fIfS (fOr (fTB (fB gIsN (fVar 1) (fC .non))) (fTT (fIsi ["bool", "str"] (fVar 1)))) (fRet (fMv (fAndV (fB gEq (fVar 0) (fVar 1)) (fAndV (fB gEq (fIsi ["bool"] (fVar 0)) (fIsi ["bool"] (fVar 1))) (fB gEq (fB gIsN (fVar 0) (fC .non)) (fB gIsN (fVar 1) (fC .non))))))) fNext)
    (fRet (fMv (fAndV (fIsi ["int"] (fVar 0)) (fAndV (fNotV (fIsi ["bool"] (fVar 0))) (fB gEq (fVar 0) (fVar 1))))))))
def run : Nat → Nat → RunF
  | 0, _ => fun _ _ => .bad
  | k + 1, 0 => runOf 2 (b0 (run k))
  | k + 1, 1 => runOf 2 (b1 (run k))
  | k + 1, 2 => runOf 2 (b2 (run k))
  | k + 1, 3 => runOf 2 (b3 (run k))
  | k + 1, 4 => runOf 4 (b4 (run k))
  | k + 1, 5 => runOf 4 (b5 (run k))
  | k + 1, 6 => runOf 6 (b6 (run k))
  | k + 1, 7 => runOf 4 (b7 (run k))
  | k + 1, 8 => runOf 2 (b8 (run k))
  | k + 1, 9 => runOf 3 (b9 (run k))
  | k + 1, 10 => runOf 4 (b10 (run k))
  | k + 1, 11 => runOf 3 (b11 (run k))
  | k + 1, 12 => runOf 6 (b12 (run k))
  | k + 1, 13 => runOf 6 (b13 (run k))
  | k + 1, 14 => runOf 2 (b14 (run k))
  | k + 1, 17 => runOf 4 (b17 (run k))
  | _ + 1, _ => fun _ _ => .bad
end Kx
set_option Elab.async false
set_option linter.all false
set_option maxRecDepth 100000
set_option maxHeartbeats 4000000
namespace Q
open PySem PySem.Spec PySem.Calls PyProof.Rows L2 PySem.HandSPX
section
variable {M : Model} {prog : Program} {w : World} {A : Around} {E : Value → Shared → Prop} {R : Result → Shared → Prop} {h : Heap} {g : Array GenState} {d : Drawn} {t : Nat} {os : OsState}
variable {nm q : Str} {C N : Addr} {bs bm bmB : List Value} {hdct : Bool} {sn : List Str} {sub : List Value} {ab : Bool} {col : Option Bool} {dd : Option Addr} {k0 k1 k2 k3 k5 : Option Value} {B newId initId : String} {kw : List (Str × Value)}
theorem chk_newK (F : ExcBaseFacts B newId initId bmB) (hT : ∀ X : String, bm.contains (.type X) = bmB.contains (.type X)) {Q : Unit → Shared → Prop}
    (hC : h.get? C = some (excClassObj nm q C N bs bm hdct sn sub ab col dd k0 k1 k2 k3 k5 newId)) (hq : Q () ⟨h, g, d, t, os⟩) : wpAny M A (checkBuiltinCall newId ⟨[.ref C], kw⟩) Q E ⟨h, g, d, t, os⟩ := by
  have hB : (Value.ref C :: bm).contains (.type B) = true := by rw [List.contains_cons, hT, F.hasB, Bool.or_true]
  have hs := F.noStar
  simp only [checkBuiltinCall, F.newKind, F.newSplit, F.newRow]
  repeat (first | refine wpAny_loadPart_at hC ?_ | (refine wpAny_isSubtype_exc hC ?_; rw [hB]) | refine wpAny_staticBase_exc hC ?_ | refine wpAny_madeBy_exc hC ?_ | simp only [bne_self_eq_false, Bool.false_eq_true, if_false] | wp_step)
  exact hq
theorem new_K (F : ExcBaseFacts B newId initId bmB) (hT : ∀ X : String, bm.contains (.type X) = bmB.contains (.type X))
    (hC : h.get? C = some (excClassObj nm q C N bs bm hdct sn sub ab col dd k0 k1 k2 k3 k5 newId))
    (hq : R (.ok (.ret (.ref (h.objs.size + 1)))) ⟨(h.push (W.kdv_tup [])).push (excO C h.objs.size), g, d, t, os⟩) :
    codeAny (model prog w) A (.builtin newId ⟨[.ref C], kw⟩) R ⟨h, g, d, t, os⟩ := by
  have he := F.ends
  have hB : (Value.ref C :: bm).contains (.type B) = true := by rw [List.contains_cons, hT, F.hasB, Bool.or_true]
  have hA : (Value.ref C :: bm).contains (.type "AttributeError") = false := by rw [List.contains_cons, hT, F.noAttr]; rfl
  have hN : (Value.ref C :: bm).contains (.type "NameError") = false := by rw [List.contains_cons, hT, F.noName]; rfl
  refine codeAny_builtinAt F.entry ?_
  unfold Builtin.«BaseException.__new__»
  refine PySem.wpAt_bind ?_
  show PySem.wpAt _ _ _ (stack >>= _) _ _ _
  refine PySem.wpAt_bind (PySem.wpAt_stack fun p below => PySem.wpAt_of_wpAny ?_)
  wp_walk
  refine PySem.wpAt_of_wpAny ?_
  rw [F.owner]
  repeat (first | with_reducible refine wpAny_madeHere_exc F.canon hC ?_ | with_reducible refine wpAny_loadPart_at hC ?_ | (with_reducible refine wpAny_isSubtype_exc hC ?_; first | rw [hB] | rw [hA] | rw [hN]) | wp_step)
  show R _ _
  rw [Heap.size_push]
  exact hq
theorem tcall_K (F : ExcBaseFacts B newId initId bmB) (hT : ∀ X : String, bm.contains (.type X) = bmB.contains (.type X)) {fI : Addr} {Q : Fin → Shared → Prop}
    (hC : h.get? C = some (excClassObj nm q C N bs bm hdct sn sub ab col dd k0 k1 k2 k3 k5 newId))
    (hi : W.Looks (model prog w) h (typeLookup (.ref C) "__init__") (some (.ref fI))) (hb : ∀ self, W.Looks (model prog w) h (bindSpecial (.ref fI) self) (.ref fI, [self]))
    (hq : codeAny (model prog w) A (.call (.ref fI) ⟨[.ref (h.objs.size + 1)], kw⟩)
      (fun r s' => match r with | .ok (.ret v) => v = .none ∧ Q (.done (.ret (.ref (h.objs.size + 1)))) s' | .ok _ => False | .error e => E e s')
      ⟨(h.push (W.kdv_tup [])).push (excO C h.objs.size), g, d, t, os⟩) :
    wpAny (model prog w) A (Builtin.«type.__call__» ⟨[.ref C], kw⟩) Q E ⟨h, g, d, t, os⟩ := by
  repeat (first | with_reducible refine wpAny_loadPart_at hC ?_ | with_reducible refine wpAny_madeBy_exc hC ?_ | wp_step)
  refine codeAny_call_builtin_code (Code.quiet_builtin _ F.quiet) (chk_newK F hT hC ?_)
  refine new_K F hT hC ?_
  show wpAny _ _ _ _ _ _
  have k : ∀ b o, h.get? b = some o → ((h.push (W.kdv_tup [])).push (excO C h.objs.size)).get? b = some o := fun b o e => Heap.get?_push_of_some _ (Heap.get?_push_of_some _ e)
  have h1 := k _ _ hC
  have h2 : ((h.push (W.kdv_tup [])).push (excO C h.objs.size)).get? (h.objs.size + 1) = some (excO C h.objs.size) := by heap_get
  have cc : (Value.ref C :: bm).contains (.ref C) = true := by simp
  have i1 := hi.keeps k
  have b1 := (hb (.ref (h.objs.size + 1))).keeps k
  unfold isInstance
  repeat (first | with_reducible refine wpAny_loadPart_at h2 ?_ | (with_reducible refine wpAny_isSubtype_exc h1 ?_; rw [cc]) | wp_step)
  show wpAny _ _ (typeLookup (.ref C) _) _ _ _
  refine i1.at ?_
  refine wpAny_holding (wpAny_bind (b1.at ?_))
  refine wpAny_bind (wpAny_call (codeAny_mono hq fun r s' z => ?_))
  rcases r with e | (v | _ | _ | _) <;> first | exact z | exact z.elim | skip
  obtain ⟨rfl, z⟩ := z
  first
    | exact wpAny_pure (wpAny_pure z)
    | (wp_walk; exact z)
theorem call_K (F : ExcBaseFacts B newId initId bmB) (hT : ∀ X : String, bm.contains (.type X) = bmB.contains (.type X)) {fI : Addr}
    (hC : h.get? C = some (excClassObj nm q C N bs bm hdct sn sub ab col dd k0 k1 k2 k3 k5 newId))
    (hi : W.Looks (model prog w) h (typeLookup (.ref C) "__init__") (some (.ref fI))) (hb : ∀ self, W.Looks (model prog w) h (bindSpecial (.ref fI) self) (.ref fI, [self]))
    (hq : codeAny (model prog w) (A.under (.builtin "type.__call__" ⟨[.ref C], kw⟩)) (.call (.ref fI) ⟨[.ref (h.objs.size + 1)], kw⟩) (W.InitBack (h.objs.size + 1) R)
      ⟨(h.push (W.kdv_tup [])).push (excO C h.objs.size), g, d, t, os⟩) :
    codeAny (model prog w) A (.call (.ref C) ⟨[], kw⟩) R ⟨h, g, d, t, os⟩ := by
  have f1 := tc_lookup
  have f2 := tc_bind (.ref C)
  have hTy : (⟨h, g, d, t, os⟩ : Shared).TypeIs (.ref C) "type" := ⟨_, hC, rfl⟩
  refine codeAny_of_tree ?_
  show wpAny _ _ (callAny (.ref C) _) _ _ _
  repeat (any_goals (first | assumption | with_reducible refine wpAny_loadPart_at hC ?_ | wp_step))
  refine ⟨rfl, ?_⟩
  refine codeAny_call_builtin_at (Code.quiet_builtin _ (by decide +kernel)) entry_typeCall (wpAny_check_type_call_sub hC (tcall_K F hT hC hi hb ?_))
  refine codeAny_mono hq fun r s' z => ?_
  rcases r with e | (v | _ | _ | _) <;> exact z
end
end Q
set_option Elab.async false
set_option linter.all false
set_option maxRecDepth 100000
set_option maxHeartbeats 4000000
namespace Q
open PySem PySem.Spec PyProof.Rows L2
section
variable {X : Cx} {c : Fx} {W : WX}
end
end Q
set_option Elab.async false
set_option linter.all false
set_option maxRecDepth 100000
set_option maxHeartbeats 1000000
namespace Q
open PySem PySem.Spec PyProof.Rows L2 ItX
section
variable {X : Cx}
end
section
variable {c : Fx} {W : WX}
end
section
variable {X : Cx} {c : Fx} {W : WX}
end
end Q
set_option Elab.async false
set_option linter.all false
set_option maxRecDepth 100000
set_option maxHeartbeats 4000000
namespace Q
open PySem PySem.Spec PyProof.Rows L2
section
variable {X : Cx} {c : Fx} {W : WX}
end
end Q
set_option Elab.async false
set_option linter.all false
set_option maxRecDepth 100000
set_option maxHeartbeats 1000000
namespace Q
open PySem PySem.Spec PyProof.Rows L2 RT
section
variable {X : Cx} {c : Fx} {W : WX}
end
end Q
namespace Ev
open Q
variable {env : En} {μ μ1 μ2 : Mu} {fa fb : FE} {x y : RV} {ds es : List D} {d : D} {i : Nat}
end Ev
set_option Elab.async false
set_option linter.all false
set_option maxRecDepth 100000
set_option maxHeartbeats 2000000
namespace Q
open PySem PySem.Spec PyProof.Rows L2
def ZipAt (z TI TO i1 i2 l1 l2 S : Addr) (xs ys : Array Value) (i : Nat) (h : Heap) : Prop :=
  (∃ o, h.get? TO = some o) ∧ IsPair h TI (.ref i1) (.ref i2) ∧ h.IsListIter i1 l1 i ∧ h.IsListIter i2 l2 i ∧ h.IsList l1 xs ∧ h.IsList l2 ys ∧
  ((IsZip h z TI TO .none ∧ ∃ a b, IsPair h TO a b) ∨ ∃ T f oT, IsZipHeld h z TI TO T f ∧ h.get? T = some oT ∧ T ≠ z ∧ T ≠ i1 ∧ T ≠ i2 ∧ T ≠ S)
structure SApart (z TI TO i1 i2 l1 l2 S : Addr) : Prop where
  z : S ≠ z
  TI : S ≠ TI
  TO : S ≠ TO
  i1 : S ≠ i1
  i2 : S ≠ i2
  l1 : S ≠ l1
  l2 : S ≠ l2
theorem ZipAt.frame {z TI TO i1 i2 l1 l2 S : Addr} {xs ys : Array Value} {i : Nat} {h h' : Heap} (d : SApart z TI TO i1 i2 l1 l2 S) (st : ZipAt z TI TO i1 i2 l1 l2 S xs ys i h) (hk : ∀ b o, b ≠ S → h.get? b = some o → h'.get? b = some o) : ZipAt z TI TO i1 i2 l1 l2 S xs ys i h' := by
  obtain ⟨⟨oo, hoo⟩, hTI, h1, h2, hl1, hl2, hz⟩ := st
  refine ⟨⟨oo, hk _ _ (Ne.symm d.TO) hoo⟩, hk _ _ (Ne.symm d.TI) hTI, h1.at fun o e => hk _ o (Ne.symm d.i1) e, h2.at fun o e => hk _ o (Ne.symm d.i2) e, hl1.at fun o e => hk _ o (Ne.symm d.l1) e, hl2.at fun o e => hk _ o (Ne.symm d.l2) e, ?_⟩
  rcases hz with ⟨hz, a, b, hTO⟩ | ⟨T, f, oT, hz, hT, r1, r2, r3, r4⟩
  · exact .inl ⟨hk _ _ (Ne.symm d.z) hz, a, b, hk _ _ (Ne.symm d.TO) hTO⟩
  · exact .inr ⟨T, f, oT, hk _ _ (Ne.symm d.z) hz, hk _ _ r4 hT, r1, r2, r3, r4⟩
section
variable {X : Cx} {pins : List (Addr × Obj)} {σ : Sl}
end
section
variable {X : Cx} {c : Fx} {W : WX}
end
end Q
namespace Ev
open Q
variable {env : En} {μ μ1 μ2 : Mu} {fa fb : FE} {ds es zs : List D}
end Ev
set_option Elab.async false
set_option linter.all false
set_option maxRecDepth 100000
set_option maxHeartbeats 2000000
namespace Q
open PySem PySem.Spec PyProof.Rows L2
section
variable {X : Cx} {c : Fx} {W : WX}
end
end Q
namespace Ev
open Q
variable {env : En} {μ μ1 μ2 μ3 : Mu} {fo fk fd : FE} {x : RV} {p : List D × List D} {k d e : D}
end Ev
set_option Elab.async false
set_option linter.all false
set_option maxRecDepth 100000
set_option maxHeartbeats 4000000
namespace Q
open PySem PySem.Spec PySem.Calls PyProof.Rows L2
def FewB (ks : List (Addr × NestedKey)) : Prop := ∀ M : List NestedKey, M.Nodup → (∀ k ∈ M, k ∈ ks.map (·.2)) → M.length < 75
theorem GotN.few {ks L : List (Addr × NestedKey)} {i : Nat} (g : GotN ks i L) (nd : (L.map (·.2)).Nodup) (f : FewB ks) : L.length + 1 < 76 := by
  have := f (L.map (·.2)) nd fun k hk => by
    obtain ⟨p, hp, e⟩ := List.mem_map.mp hk
    exact List.mem_map.mpr ⟨p, List.mem_of_mem_take (g.sub p hp), e⟩
  rw [List.length_map] at this
  omega
section
variable {P : Program} {w : World} {A : Around} {E : Value → Shared → Prop} {s : Shared}
end
section
variable {X : Cx} {c : Fx} {W : WX}
end
section
variable {X : Cx} {c : Fx} {W : WX}
end
end Q
set_option Elab.async false
set_option linter.all false
set_option maxRecDepth 100000
set_option maxHeartbeats 2000000
namespace Q
open PySem PySem.Spec PySem.Calls PyProof.Rows L2
def fMk0 (x : Str) : FE := fun _ μ => .ok (.val (.exc x [] [])) μ
def fMk1 (x fld : Str) (fr : FA) : FE := fun env μ => (fr env μ).bind fun ds μ => match ds with
  | [d] => .ok (.val (.exc x [fld] [d])) μ
  | _ => .bad
def fAtt (cs : List Str) (f : Str) (fa : FE) : FE := fun env μ => (fa env μ).bind fun x μ => match x with
  | .val (.exc x ns ds) => if x ∈ cs then (match (ns.zip ds).lookup f with
    | some d => .ok (.val d) μ
    | none => .bad) else .bad
  | _ => .bad
def fIsE (tb : List (Str × Bool)) (fa : FE) : FE := fun env μ => (fa env μ).bind fun x μ => match x with
  | .val (.exc x _ _) => match tb.lookup x with
    | some b => .ok (.val (.bl b)) μ
    | none => .bad
  | _ => .bad
structure XfK (P : Program) (w : World) (K : PySem.W.Frag) (mg : Str → Option Value) (base : Heap) (x : Str) (C : Addr) (fld par : Str) : Prop where
  gC : mg x = some (.ref C)
  FB : ∃ (B newId initId : String) (bmB : List Value), ExcBaseFacts B newId initId bmB ∧ PySem.W.excInitIn K C bmB newId = true
  kC : PySem.W.keepIn K (.ref C) = true
  ini : ∃ (f : Addr) (fd : FuncData), PySem.W.findIn K (.ref C) "__init__" = some (some (.ref f)) ∧ PySem.W.typeIn K (.ref f) = some (.type "function") ∧ IniOk P w K mg base (L2.CX P w) f fd ["self", par] (spI C fld) ∧ ∀ a u : Value, bindArgs fd ⟨[a], [(par, u)]⟩ = pure [(("self" : Str), a), (par, u)]
open PySem.W (ksFn KxsFacts excInitIn excOver ks_superIn) in
theorem xfk_mk {P : Program} {w : World} {K : PySem.W.Frag} {h : Heap} {mg : Str → Option Value} {base : Heap} {x fld par nm qual : Str} {st : Stmt} {C f cda cc : Addr} {bmB : List Value} {vs : Array Value} {file : Str} {tf : Tok} {oc ccl cl dV kV doc pm ct : Value} {od an cdd cld : Option Addr} {osl ccs csl : Array (Option Value)}
    {Bs newS initS : String} (FB : ExcBaseFacts Bs newS initS bmB) (KF : KxsFacts Bs initS) (SF : StoreFacts Bs bmB "object.__setattr__" "object") (S : InS st fld par) (X : K.In h) (G : h.Ns mainGlobals mg)
    (y0 : PySem.W.nsIn K mainGlobals x = some (some (.ref C))) (y1 : PySem.W.keepIn K (.ref C) = true) (y2 : PySem.W.subIn K (.ref C) (.type "BaseException") = some true) (y3 : PySem.W.typeIn K (.ref C) = some (.type "type"))
    (y4 : excInitIn K C bmB newS = true) (y5 : excOver K C bmB = true) (y6 : PySem.W.findIn K (.ref C) "__setattr__" = some (some (.builtin "object.__setattr__"))) (y7 : PySem.W.takerIn K C fld = some none) (y8 : PySem.W.hasDictIn K C = true)
    (y9 : ks_superIn K C C "__init__" = some (some (.builtin initS))) (y10 : PySem.W.subIn K (.ref C) (.type Bs) = some true) (y11 : PySem.W.mroIn K C (.ref C) = some true) (y12 : PySem.W.nsIn K cStatics "thirdparty.any" = some none) (y13 : PySem.W.nsIn K mainGlobals "super" = some none)
    (y14 : PySem.W.findIn K (.ref C) "__init__" = some (some (.ref f))) (y15 : PySem.W.typeIn K (.ref f) = some (.type "function")) (y16 : K.lookup f = some ⟨oc, od, .func (ksFn nm qual (defArgs st) (defBody st) (defScope st) dV kV doc pm an (.ref cda) ct cc), osl⟩)
    (y17 : PySem.W.codeIn K (.ref cda) qual = true) (y18 : K.lookup cda = some ⟨ccl, cdd, .fields vs, ccs⟩) (y19 : vs[2]? = some (.str file tf)) (y20 : ((P.main.file : Str) == file) = true) (y21 : K.lookup cc = some ⟨cl, cld, .cell (some (.ref C)), csl⟩) (y22 : (P.main.scope.names.lookup ("super" : Str)).isSome = false)
    (hb : Binds K (ksFn nm qual (defArgs st) (defBody st) (defScope st) dV kV doc pm an (.ref cda) ct cc) ["self", par] [])
    (hbk : ∀ a u : Value, bindArgs (ksFn nm qual (defArgs st) (defBody st) (defScope st) dV kV doc pm an (.ref cda) ct cc) ⟨[a], [(par, u)]⟩ = pure [(("self" : Str), a), (par, u)]) : XfK P w K mg base x C fld par :=
  ⟨PySem.W.mg_of X G y0, ⟨Bs, newS, initS, bmB, FB, y4⟩, y1, f, _, y14, y15,
    ec_init (T := ⟨FB, KF, SF, y4, y5, y6, y7, y8, y9, y10, y11, y12, y22, S.ks, S.kc, S.ka, S.kp, S.sk, S.pne, S.pa, S.bd, S.dbg⟩) (PySem.W.mg_none_of X G y13) y17 y16 y18 y19 y20 y21 S.hnc S.hco S.hgen, hbk⟩
structure IsE (K : PySem.W.Frag) (cv : Value) (tb : List (Str × Bool)) : Prop where
  all : ∀ x b, tb.lookup x = some b → ∃ D, PySem.W.nsIn K mainGlobals x = some (some (.ref D)) ∧ ExcC K D ∧ PySem.W.kitOne K (.ref D) cv = some b
theorem isE_nil {K : PySem.W.Frag} {cv : Value} : IsE K cv [] := ⟨fun x b h => by simp [List.lookup] at h⟩
theorem isE_cons {K : PySem.W.Frag} {cv : Value} {tb : List (Str × Bool)} {x : Str} {b : Bool} {D : Addr} (h1 : PySem.W.nsIn K mainGlobals x = some (some (.ref D))) (h2 : ExcC K D) (h3 : PySem.W.kitOne K (.ref D) cv = some b) (r : IsE K cv tb) : IsE K cv ((x, b) :: tb) := ⟨fun y e h => by
  by_cases z : y = x
  · subst z
    simp [List.lookup] at h
    subst h
    exact ⟨D, h1, h2, h3⟩
  · have z2 : (y == x) = false := by simpa using z
    simp only [List.lookup, z2] at h
    exact r.all y e h⟩
structure AtE (K : PySem.W.Frag) (f : Str) (cs : List Str) : Prop where
  all : ∀ x ∈ cs, ∃ D, PySem.W.nsIn K mainGlobals x = some (some (.ref D)) ∧ XfC K D ∧ PySem.W.findIn K (.ref D) f = some none
theorem atE_nil {K : PySem.W.Frag} {f : Str} : AtE K f [] := ⟨fun x h => by cases h⟩
theorem atE_cons {K : PySem.W.Frag} {f : Str} {cs : List Str} {x : Str} {D : Addr} (h1 : PySem.W.nsIn K mainGlobals x = some (some (.ref D))) (h2 : XfC K D ∧ PySem.W.findIn K (.ref D) f = some none) (r : AtE K f cs) : AtE K f (x :: cs) := ⟨fun y h => by
  rcases List.mem_cons.mp h with rfl | h
  · exact ⟨D, h1, h2⟩
  · exact r.all y h⟩
section
variable {X : Cx} {c : Fx} {W : WX}
theorem pe_mk0 {C : Addr} {bmB : List Value} {B newId initId : String} {x : Str} {p pos : Pos} (F : ExcBaseFacts B newId initId bmB) (q : PySem.W.excIn X.K C bmB newId = true) (gC : X.mg x = some (.ref C)) (kC : PySem.W.keepIn X.K (.ref C) = true) (hg : Gl X x) (hdb : (x == ("__debug__" : Str)) = false) :
    PE X (.Call (.Name x p) [] [] pos) (fun _ H Q => ∀ e, H e = none → Q (.ref e) (upd H e (exo e C none))) := ⟨fun pins s σ H Q I h => by
  refine wpAny_Call_Name_kw (ld_glob I hg gC ?_ hdb)
  refine PySem.W.callWith_K0 (first := []) I.kIn kC ?_
  obtain ⟨b1, b2, b3, b4, b5, b6, b7, b8, b9, b10, b11, c0, c1, c2, c3, c5, m1, w1, w2, w3, w4⟩ := exc_obj I.kIn q
  refine wpAny_call_exc_subT F w4 w1 w2 w3 (fun h' e hm => ?_) (Nat.zero_le _)
  obtain ⟨t, he, _, _⟩ := hm.there
  exact ⟨.ref e, _, I.laidN hm.keeps hm.new (I.hok.gone hm.new) (exo_ok he), rfl, h e (I.hok.gone hm.new)⟩⟩
theorem de_mk0 {C : Addr} {x : Str} {p pos : Pos} (h : Xc X.K X.mg x C) (hn : PySem.W.nsIn X.K mainGlobals x = some (some (.ref C))) (hg : Gl X x := by rfl) (hk : X.KW = c.K := by rfl) (hdb : (x == ("__debug__" : Str)) = false := by decide) : DE X c W (.Call (.Name x p) [] [] pos) (fMk0 x) := by
  obtain ⟨B, newId, initId, bmB, F, q⟩ := h.own
  refine PE.of (pe_mk0 F q h.gC h.kC hg hdb) fun σ H Q q => ?_
  obtain ⟨G, env, μ, R, q⟩ := q
  intro e he
  obtain ⟨F2, x2⟩ := R.newG' (o := exo e C none) he True.intro
  exact q.now x2 F2 (show Dat c.K _ c.L (V.ref e) (.exc x [] []) from Dat.exc (vs := []) (by rw [← hk]; exact hn) upd_same (.inl ⟨rfl, rfl⟩) rfl .nil)
def tEO (C : Addr) (fld : Str) (ta : TA) : TE := fun σ H Q => ta σ H fun vs H1 => vs.length ≤ 1000 ∧ ∀ a, H1 a = none → spI C fld (.ref a :: vs) (upd H1 a (exo a C none)) (fun v H2 => v = .non ∧ Q (.ref a) H2) (fun _ _ _ => False)
theorem pe_eo {C : Addr} {fld x : Str} {B newId initId : String} {bmB : List Value} {k : Nat} {e : Expr} {ta : TA} {p pos : Pos} (T : Eo X.prog X.w X.K X.mg X.base C fld B newId initId bmB) (hr : Room k X.A) (hx : Passes (L2.CX X.prog X.w) X (fun _ _ _ => False)) (hg : Gl X x) (hm : X.mg x = some (.ref C)) (ha : PA X [e] ta)
    (hdb : (x == ("__debug__" : Str)) = false := by decide) (he : starEach [e] X.env = (false, eval e X.env) :: starEach [] X.env := by rfl) :
    PE X (.Call (.Name x p) [e] [] pos) (tEO C fld ta) := ⟨fun pins s σ H Q I h => by
  obtain ⟨fI, fd, ps, iC, tI, F1, hb⟩ := T.ini
  refine wpAny_Call_Name_kw (ld_glob I hg hm ?_ hdb)
  refine PySem.W.callWith_K (h₀ := X.base) I.ok.mod.kin T.kC (thn (ha.run pos pins s σ H _ I h) fun us s1 z => ?_) he rfl
  obtain ⟨vs, H1, I1, r1, hz, q1⟩ := z
  refine ⟨I1.kIn, ?_⟩
  show wpAny _ _ (call (.ref C) us) _ _ _
  obtain ⟨hp, g, dr, tk, os⟩ := s1
  obtain ⟨nm, N, qn, bs, bm, hdct, sn, sub, ab, col, dd, k0, k1, k2, k3, k5, hC, hT⟩ := PySem.W.excInit_of I1.kIn T.iq
  have sz1 : hp.objs.size ≤ hp.objs.size + 1 := by omega
  have fr : H1 (hp.objs.size + 1) = none := I1.hok.fresh sz1
  have pr := q1 _ fr
  let hp2 : Heap := (hp.push (PySem.W.kdv_tup us)).push (PySem.HandSPX.excO C hp.objs.size)
  have kp : ∀ b o, hp.get? b = some o → hp2.get? b = some o := fun b o z => Heap.get?_push_of_some _ (Heap.get?_push_of_some _ z)
  have hat : ((hp.push (PySem.W.kdv_tup us)).push (PySem.HandSPX.excO C hp.objs.size)).get? (hp.objs.size + 1) = some (PySem.HandSPX.excO C hp.objs.size) := by heap_get
  have I2 : Inv X pins σ (upd H1 (hp.objs.size + 1) (exo (hp.objs.size + 1) C none)) ⟨hp2, g, dr, tk, os⟩ :=
    I1.laid (t' := tk) (h' := hp2) (o := exo (hp.objs.size + 1) C none) kp sz1 (exo_ok (P := X.prog) (w := X.w) hat)
  have r2 : Vals (V.ref (hp.objs.size + 1) :: vs) (Value.ref (hp.objs.size + 1) :: us) := .cons rfl r1
  have ln : (Value.ref (hp.objs.size + 1) :: us).length = ps.length := by
    have := r2.length
    rw [F1.len _ _ _ _ pr] at this
    exact this.symm
  have un : us.length ≤ sizeLine := by
    have := Paired.length r1
    rw [sizeLine_eq]; omega
  have hb2 : BindsTo ⟨hp2, g, dr, tk, os⟩ fd ⟨Value.ref (hp.objs.size + 1) :: us, []⟩ (ps.zip (Value.ref (hp.objs.size + 1) :: us)) := by
    have := hb ⟨hp2, g, dr, tk, os⟩ (Value.ref (hp.objs.size + 1) :: us) I2.kIn (by rw [List.append_nil]; exact ln)
    rw [List.append_nil] at this
    exact this
  have go := F1.run _ X.stack _ _ ⟨Value.ref (hp.objs.size + 1) :: us, []⟩ (Value.ref (hp.objs.size + 1) :: us) _ _ (fun _ _ _ => False) (by rw [make_depth]; have := hr.dp; omega) (I2.env0.make C us []) hb2 r2 pr
  refine wpAny_call (PySem.HandSPX.call_own T.FB hT hC (PySem.W.looks_findIn I1.kIn iC) (fun self => PySem.W.bind_fn I1.kIn self tI) un (codeAny_mono go fun r s' z => ?_))
  cases r with
  | error er => exact hx pins σ _ _ er s' I2 z
  | ok fl =>
    cases fl with
    | ret u =>
      obtain ⟨v, H2, I3, rv, ev, q3⟩ := I2.after z
      subst ev
      exact ⟨rv, V.ref (hp.objs.size + 1), H2, I3, rfl, q3⟩
    | _ => exact z.elim⟩
theorem pe_eoK {C : Addr} {fld par x : Str} {k : Nat} {kws : List Keyword} {tk : TA} {p pos : Pos} (T : XfK X.prog X.w X.K X.mg X.base x C fld par) (hr : Room k X.A) (hx : Passes (L2.CX X.prog X.w) X (fun _ _ _ => False)) (hg : Gl X x) (hkw : PK X kws tk)
    (hall : (backToKw pos (keywordEach kws X.env)).all (·.1.isSome) = true := by rfl) (hks : (backToKw pos (keywordEach kws X.env)).filterMap (·.1) = [par] := by rfl)
    (hdb : (x == ("__debug__" : Str)) = false := by decide) (hpl : ((backTo pos (starEach [] X.env)).any (·.1) || (backToKw pos (keywordEach kws X.env)).any (·.1.isNone)) = false := by rfl) :
    PE X (.Call (.Name x p) [] kws pos) (tEO C fld tk) := ⟨fun pins s σ H Q I h => by
  obtain ⟨B, newId, initId, bmB, FB, iq⟩ := T.FB
  obtain ⟨fI, fd, iC, tI, F1, hb⟩ := T.ini
  refine wpAny_Call_Name_kw (ld_glob I hg T.gC ?_ hdb)
  refine PySem.W.callWith_KW0 (h₀ := X.base) I.ok.mod.kin T.kC hall (thn (hkw.run pos pins s σ H _ I h) fun us s1 z => ?_) hpl
  obtain ⟨vs, H1, I1, r1, hz, q1⟩ := z
  refine ⟨I1.kIn, ?_⟩
  rw [hks]
  show wpAny _ _ (call (.ref C) [] ([par].zip us)) _ _ _
  obtain ⟨hp, g, dr, t0, os⟩ := s1
  obtain ⟨nm, N, qn, bs, bm, hdct, sn, sub, ab, col, dd, k0, k1, k2, k3, k5, hC, hT⟩ := PySem.W.excInit_of I1.kIn iq
  have sz1 : hp.objs.size ≤ hp.objs.size + 1 := by omega
  have fr : H1 (hp.objs.size + 1) = none := I1.hok.fresh sz1
  have pr := q1 _ fr
  obtain ⟨u, rfl, ry⟩ : ∃ u, us = [u] ∧ Vals vs [u] := by
    have l := F1.len _ _ _ _ pr
    have l2 := Paired.length r1
    simp only [List.length_cons, List.length_nil] at l
    match us, r1, l2 with
    | [u], r1, _ => exact ⟨u, rfl, r1⟩
    | [], _, l2 => simp only [List.length_nil] at l2; omega
    | _ :: _ :: _, _, l2 => simp only [List.length_cons] at l2; omega
  let hp2 : Heap := (hp.push (PySem.W.kdv_tup [])).push (PySem.HandSPX.excO C hp.objs.size)
  have kp : ∀ b o, hp.get? b = some o → hp2.get? b = some o := fun b o z => Heap.get?_push_of_some _ (Heap.get?_push_of_some _ z)
  have hat : ((hp.push (PySem.W.kdv_tup [])).push (PySem.HandSPX.excO C hp.objs.size)).get? (hp.objs.size + 1) = some (PySem.HandSPX.excO C hp.objs.size) := by heap_get
  have I2 : Inv X pins σ (upd H1 (hp.objs.size + 1) (exo (hp.objs.size + 1) C none)) ⟨hp2, g, dr, t0, os⟩ :=
    I1.laid (t' := t0) (h' := hp2) (o := exo (hp.objs.size + 1) C none) kp sz1 (exo_ok (P := X.prog) (w := X.w) hat)
  have r2 : Vals (V.ref (hp.objs.size + 1) :: vs) [Value.ref (hp.objs.size + 1), u] := .cons rfl ry
  have hb2 : BindsTo ⟨hp2, g, dr, t0, os⟩ fd ⟨[Value.ref (hp.objs.size + 1)], [par].zip [u]⟩ ((["self", par] : List Str).zip [Value.ref (hp.objs.size + 1), u]) :=
    BindsTo.of_looks fun M => PySem.W.Looks.of_pure (hb _ _)
  have go := F1.run _ X.stack _ _ ⟨[Value.ref (hp.objs.size + 1)], [par].zip [u]⟩ [Value.ref (hp.objs.size + 1), u] _ _ (fun _ _ _ => False) (by rw [make_depth]; have := hr.dp; omega) (I2.env0.make C [] ([par].zip [u])) hb2 r2 pr
  refine wpAny_call (call_K FB hT hC (PySem.W.looks_findIn I1.kIn iC) (fun self => PySem.W.bind_fn I1.kIn self tI) (codeAny_mono go fun r s' z => ?_))
  cases r with
  | error er => exact hx pins σ _ _ er s' I2 z
  | ok fl =>
    cases fl with
    | ret u =>
      obtain ⟨v, H2, I3, rv, ev, q3⟩ := I2.after z
      subst ev
      exact ⟨rv, V.ref (hp.objs.size + 1), H2, I3, rfl, q3⟩
    | _ => exact z.elim⟩
theorem eo_data {σ : Sl} {H G : Hp} {env : En} {μ : Mu} {C : Addr} {x fld : Str} {v : V} {d : D} {Q : VK} (R : FRel c σ H G env μ) (dv : Dat c.K G c.L v d) (hn : PySem.W.nsIn c.K.toFrag mainGlobals x = some (some (.ref C)))
    (q : tG c W σ H G env (RX c σ) (.ok (.val (.exc x [fld] [d])) μ) Q) (a : Addr) (ha : H a = none) : spI C fld [.ref a, v] (upd H a (exo a C none)) (fun u H2 => u = .non ∧ Q (.ref a) H2) (fun _ _ _ => False) := by
  refine ⟨a, v, rfl, upd_same, fun dx hd hne => ⟨rfl, ?_⟩⟩
  rw [upd_ne hne] at hd
  obtain ⟨F1, x1⟩ := R.newG' (o := exd dx [(fld, v)]) hd True.intro
  have ha1 : upd H dx (exd dx [(fld, v)]) a = none := by rw [upd_ne (Ne.symm hne)]; exact ha
  obtain ⟨F2, x2⟩ := F1.newG' (o := exo a C (some dx)) ha1 True.intro
  have eH : upd (upd (upd H a (exo a C none)) dx (exd dx [(fld, v)])) a (exo a C (some dx)) = upd (upd H dx (exd dx [(fld, v)])) a (exo a C (some dx)) := by
    funext b
    by_cases hb : b = a
    · rw [hb, upd_same, upd_same]
    · rw [upd_ne hb, upd_ne hb]
      by_cases hb2 : b = dx
      · rw [hb2, upd_same, upd_same]
      · rw [upd_ne hb2, upd_ne hb2, upd_ne hb]
  rw [eH]
  exact q.now (x1.trans x2) F2 (show Dat c.K _ c.L (V.ref a) (.exc x [fld] [d]) from
    Dat.exc (vs := [v]) hn upd_same (.inr ⟨dx, rfl, by rw [upd_ne hne, upd_same]; rfl⟩) rfl (.cons (Dat.up (x1.trans x2).gg dv) .nil))
theorem de_mk1 {C : Addr} {fld x : Str} {k : Nat} {e : Expr} {fr : FA} {p pos : Pos} (h : Xf X.prog X.w X.K X.mg X.base x C fld) (hn : PySem.W.nsIn X.K mainGlobals x = some (some (.ref C))) (hr : Room k X.A) (ha : DA X c W [e] fr) (hx : Passes (L2.CX X.prog X.w) X (fun _ _ _ => False)) (hg : Gl X x := by rfl) (hk : X.KW = c.K := by rfl)
    (hdb : (x == ("__debug__" : Str)) = false := by decide) (he : starEach [e] X.env = (false, eval e X.env) :: starEach [] X.env := by rfl) : DE X c W (.Call (.Name x p) [e] [] pos) (fMk1 x fld fr) := by
  obtain ⟨B, newId, initId, bmB, T⟩ := h.eo
  refine PE.of (pe_eo T hr hx hg h.gC ha hdb he) fun σ H Q q => ?_
  obtain ⟨G, env, μ, R, q⟩ := q
  refine ⟨G, env, μ, R, (tG.bind q).imp (fun _ _ _ _ h => h) ?_⟩
  rintro vs H1 ⟨G1, μ1, ds, x1, R1, d1, h1⟩
  have e1 : Dats c.K G1 c.L vs ds := d1
  cases e1 with
  | nil => exact h1.elim
  | @cons v d vs ds y1 y2 =>
    cases y2 with
    | cons _ _ => exact h1.elim
    | nil => exact ⟨by simp, fun a ha' => eo_data (W := W) R1 y1 (by rw [← hk]; exact hn) h1 a ha'⟩
theorem de_mkK {C : Addr} {fld par x : Str} {k : Nat} {kws : List Keyword} {fk : FA} {p pos : Pos} (h : XfK X.prog X.w X.K X.mg X.base x C fld par) (hn : PySem.W.nsIn X.K mainGlobals x = some (some (.ref C))) (hr : Room k X.A) (hkw : DK X c W kws fk) (hx : Passes (L2.CX X.prog X.w) X (fun _ _ _ => False)) (hg : Gl X x := by rfl) (hk : X.KW = c.K := by rfl)
    (hall : (backToKw pos (keywordEach kws X.env)).all (·.1.isSome) = true := by rfl) (hks : (backToKw pos (keywordEach kws X.env)).filterMap (·.1) = [par] := by rfl)
    (hdb : (x == ("__debug__" : Str)) = false := by decide) (hpl : ((backTo pos (starEach [] X.env)).any (·.1) || (backToKw pos (keywordEach kws X.env)).any (·.1.isNone)) = false := by rfl) : DE X c W (.Call (.Name x p) [] kws pos) (fMk1 x fld fk) := by
  refine PE.of (pe_eoK h hr hx hg hkw hall hks hdb hpl) fun σ H Q q => ?_
  obtain ⟨G, env, μ, R, q⟩ := q
  refine ⟨G, env, μ, R, (tG.bind q).imp (fun _ _ _ _ h => h) ?_⟩
  rintro vs H1 ⟨G1, μ1, ds, x1, R1, d1, h1⟩
  have e1 : Dats c.K G1 c.L vs ds := d1
  cases e1 with
  | nil => exact h1.elim
  | @cons v d vs ds y1 y2 =>
    cases y2 with
    | cons _ _ => exact h1.elim
    | nil => exact ⟨by simp, fun a ha' => eo_data (W := W) R1 y1 (by rw [← hk]; exact hn) h1 a ha'⟩
def tAtt (K : PySem.W.Frag) (f : Str) (te : TE) : TE := fun σ H Q => te σ H fun x H1 => ∃ (a C dd : Addr) (fs : List (Str × V)) (v : V), x = .ref a ∧ H1 a = some (exo a C (some dd)) ∧ H1 dd = some (exd dd fs) ∧ XfC K C ∧ PySem.W.findIn K (.ref C) f = some none ∧ fs.lookup f = some v ∧ Q v H1
theorem pe_att {e : Expr} {te : TE} {pos : Pos} {n : Str} (he : PE X e te) (hb : attributeBase e n X.env (eval e X.env) = eval e X.env := by rfl) : PE X (.Attribute e n pos) (tAtt X.K n te) := by
  refine ⟨fun pins s σ H Q I h => ?_⟩
  refine attr_of hb (thn (he.run pins s σ H _ I h) fun u s1 hh => ?_)
  obtain ⟨x, H1, I1, rx, a, C, dd, fs, v, ex, ea, ed, T, hno, l, q⟩ := hh
  subst ex
  obtain rfl : u = Value.ref a := rx
  obtain ⟨t1, ho⟩ := exo_at I1.hok ea
  obtain ⟨mA, hns, hr⟩ := exd_at I1.hok ed
  obtain ⟨od, hod, hl⟩ := lookIn_ns hns
  obtain ⟨u, hu, ru⟩ := RelO.some_of (v := v) (o := mA n) (by rw [← l]; exact hr n)
  have J : PySem.W.InstAt s1.heap a _ C (some od) := ⟨ho, rfl, rfl, hod⟩
  exact HandSPX.exc_get I1.kIn J T.ga T.gg T.exC (PySem.W.findObj_own T.hdC hno rfl (by rw [hl, hu])) (handed_of ru) ⟨v, H1, I1.tok _, ru, q⟩
theorem zip_look (f : Str) (d : D) : ∀ (ns : List Str) (vs : List V) (ds : List D) {K : KW} {G : Hp} {L : List Addr}, ns.length = vs.length → Dats K G L vs ds → (ns.zip ds).lookup f = some d → ∃ v, (ns.zip vs).lookup f = some v ∧ Dat K G L v d
  | [], vs, ds, _, _, _, _, _, h => by simp [List.lookup] at h
  | n :: ns, [], ds, _, _, _, h, _, _ => by simp at h
  | n :: ns, v :: vs, _, K, G, L, h, .cons (d := e) (ds := ds) d1 d2, l => by
    have l : ((n, e) :: ns.zip ds).lookup f = some d := l
    show ∃ w, ((n, v) :: ns.zip vs).lookup f = some w ∧ _
    rw [lookupD] at l
    rw [lookup_put]
    by_cases z : f = n
    · rw [if_pos z] at l ⊢
      cases l
      exact ⟨v, rfl, d1⟩
    · rw [if_neg z] at l ⊢
      exact zip_look f d ns vs ds (by simpa using h) d2 l
theorem de_att {cs : List Str} {e : Expr} {fa : FE} {pos : Pos} {f : Str} (T : AtE X.K f cs) (ha : DE X c W e fa) (hk : X.KW = c.K := by rfl) (hb : attributeBase e f X.env (eval e X.env) = eval e X.env := by rfl) : DE X c W (.Attribute e f pos) (fAtt cs f fa) :=
  PE.of (pe_att ha hb) fun σ H Q q => by
  obtain ⟨G, env, μ, R, q⟩ := q
  refine ⟨G, env, μ, R, (tG.bind q).imp (fun _ _ _ _ h => h) ?_⟩
  rintro x H1 ⟨G1, μ1, dx, x1, R1, d1, h1⟩
  split at h1
  · rename_i x' ns ds
    split at h1
    · rename_i hx
      split at h1
      · rename_i d hl
        obtain ⟨D, n1, n2, n3⟩ := T.all _ hx
        have d1 : Dat c.K G1 c.L x (.exc x' ns ds) := d1
        cases d1 with
        | @exc a C dd x' ns vs ds m1 m2 m3 m4 m5 =>
          rw [← hk] at m1
          have eC : C = D := by
            have z := n1.symm.trans m1
            injection z with z; injection z with z; injection z with z
            exact z.symm
          subst eC
          obtain ⟨v, l1, l2⟩ := zip_look f d ns vs ds m4 m5 hl
          rcases m3 with ⟨_, m3⟩ | ⟨dd', rfl, m3⟩
          · subst m3
            simp [List.lookup] at hl
          · exact ⟨a, C, dd', ns.zip vs, v, rfl, R1.sub _ _ m2, R1.sub _ _ m3, n2, n3, l1, h1.now Ext.refl R1 (show DatX c G1 σ v (.val d) from l2)⟩
      · exact h1.elim
    · exact h1.elim
  · exact h1.elim
def rIsV (K : PySem.W.Frag) : List V → Hp → VK → Prop := fun xs H Q => ∃ (a D : Addr) (d : Option Addr) (c : V) (cv : Value) (b : Bool), xs = [.ref a, c] ∧ H a = some (exo a D d) ∧ (d = none ∨ ∃ dd fs, d = some dd ∧ H dd = some (exd dd fs)) ∧ ExcC K D ∧ (∀ u, RelV c u → u = cv) ∧ PySem.W.kitOne K (.ref D) cv = some b ∧ Q (.bl b) H
theorem call_isV : CallR X (.builtin "isinstance") (rIsV X.K) := by
  intro pins s σ H xs us Q I r h
  obtain ⟨a, D, d, c, cv, b, rfl, ea, hd, C, hcv, e, q⟩ := h
  cases r with
  | cons rx rr =>
    cases rr with
    | cons rt rr =>
      cases rr
      cases rx
      have ec := hcv _ rt
      subst ec
      obtain ⟨t1, ho⟩ := exo_at I.hok ea
      obtain ⟨oe, od, J⟩ : ∃ oe od, PySem.W.InstAt s.heap a oe D od := by
        rcases hd with rfl | ⟨dd, fs, rfl, ed⟩
        · exact ⟨_, none, ho, rfl, rfl, trivial⟩
        · obtain ⟨mA, hns, hr⟩ := exd_at I.hok ed
          obtain ⟨od, ho2, hl⟩ := lookIn_ns hns
          exact ⟨_, some od, ho, rfl, rfl, ho2⟩
      obtain ⟨cd, hc, _⟩ := PySem.W.any_some C.hd
      have hcl : (PySem.W.clsIn X.K D).isSome = true := by rw [hc]; rfl
      exact PySem.W.kia_one (PySem.W.kitx_exc (od := od) hcl C.hg C.hk C.hs C.ha C.hn C.ht C.hm) I.kIn J e (fun z => nomatch z) fun tk => ⟨.bl b, H, I.kept (t' := tk) fun _ _ z => z, rfl, q⟩
theorem de_isE {e e2 : Expr} {fa : FE} {tb : List (Str × Bool)} {v2 : V} {cv : Value} {p pos : Pos} (T : IsE X.K cv tb) (hv : ∀ u, RelV v2 u → u = cv) (h2 : PE X e2 (tC v2)) (hm : X.mg "isinstance" = none) (ha : DE X c W e fa) (hgl : Gl X "isinstance" := by rfl) (hk : X.KW = c.K := by rfl)
    (hs : starEach [e, e2] X.env = (false, eval e X.env) :: starEach [e2] X.env := by rfl) (hs2 : starEach [e2] X.env = (false, eval e2 X.env) :: starEach [] X.env := by rfl) (hpl : (backTo pos (starEach [e2] X.env)).any (·.1) = false := by rfl) :
    DE X c W (.Call (.Name "isinstance" p) [e, e2] [] pos) (fIsE tb fa) :=
  PE.of (pe_callB (call_isV (X := X)) hgl hm (by decide +kernel) (pa_cons ha (pa_cons h2 pa_nil hs2) hs) (by decide) (by decide) hs hpl) fun σ H Q q => by
  obtain ⟨G, env, μ, R, q⟩ := q
  refine ⟨G, env, μ, R, (tG.bind q).imp (fun _ _ _ _ h => h) ?_⟩
  rintro x H1 ⟨G1, μ1, dx, x1, R1, d1, h1⟩
  split at h1
  · rename_i x' ns ds
    split at h1
    · rename_i b hl
      obtain ⟨D, n1, n2, n3⟩ := T.all _ _ hl
      have d1 : Dat c.K G1 c.L x (.exc x' ns ds) := d1
      cases d1 with
      | @exc a C dd x' ns vs ds m1 m2 m3 m4 m5 =>
        rw [← hk] at m1
        have eC : C = D := by
          have z := n1.symm.trans m1
          injection z with z; injection z with z; injection z with z
          exact z.symm
        subst eC
        refine ⟨a, C, dd, v2, cv, b, rfl, R1.sub _ _ m2, ?_, n2, hv, n3, h1.now Ext.refl R1 (show DatX c G1 σ _ (.val (.bl b)) from Dat.bl _)⟩
        rcases m3 with ⟨rfl, _⟩ | ⟨dd', rfl, m3⟩
        · exact .inl rfl
        · exact .inr ⟨dd', _, rfl, R1.sub _ _ m3⟩
    · exact h1.elim
  · exact h1.elim
theorem de_isET {e : Expr} {fa : FE} {tb : List (Str × Bool)} {n : String} {x : Str} {p p2 pos : Pos} (T : IsE X.K (.type n) tb) (hm : X.mg "isinstance" = none) (hm2 : X.mg x = none) (hv : bootBuiltins x = some (.type n)) (ha : DE X c W e fa) (hgl : Gl X "isinstance" := by rfl) (hgl2 : Gl X x := by rfl) (hk : X.KW = c.K := by rfl) (hn : x ≠ "__name__" := by decide) (hdb : (x == ("__debug__" : Str)) = false := by decide)
    (hs : starEach [e, .Name x p2] X.env = (false, eval e X.env) :: starEach [.Name x p2] X.env := by rfl) (hs2 : starEach [.Name x p2] X.env = (false, eval (.Name x p2) X.env) :: starEach [] X.env := by rfl) (hpl : (backTo pos (starEach [.Name x p2] X.env)).any (·.1) = false := by rfl) :
    DE X c W (.Call (.Name "isinstance" p) [e, .Name x p2] [] pos) (fIsE tb fa) := de_isE (v2 := .ty n) T (fun u h => h) (pe_bltn hgl2 hm2 hv rfl hn hdb) hm ha hgl hk hs hs2 hpl
theorem de_isEC {e : Expr} {fa : FE} {tb : List (Str × Bool)} {C : Addr} {x : Str} {p p2 pos : Pos} (T : IsE X.K (.ref C) tb) (hm : X.mg "isinstance" = none) (hm2 : X.mg x = some (.ref C)) (ha : DE X c W e fa) (hgl : Gl X "isinstance" := by rfl) (hgl2 : Gl X x := by rfl) (hk : X.KW = c.K := by rfl) (hdb : (x == ("__debug__" : Str)) = false := by decide)
    (hs : starEach [e, .Name x p2] X.env = (false, eval e X.env) :: starEach [.Name x p2] X.env := by rfl) (hs2 : starEach [.Name x p2] X.env = (false, eval (.Name x p2) X.env) :: starEach [] X.env := by rfl) (hpl : (backTo pos (starEach [.Name x p2] X.env)).any (·.1) = false := by rfl) :
    DE X c W (.Call (.Name "isinstance" p) [e, .Name x p2] [] pos) (fIsE tb fa) := de_isE (v2 := .ref C) T (fun u h => h) (pe_glob hgl2 hm2 rfl hdb) hm ha hgl hk hs hs2 hpl
end
end Q
set_option Elab.async false
set_option linter.all false
set_option maxRecDepth 100000
set_option maxHeartbeats 4000000
namespace Kx
open PySem PySem.Spec PyProof.Rows L2 Q
def b517 (r r7 : Nat → RunF) : FS := (fSeq (fSet 2 (fMv (fIf (fTB (fB gLt (fVar 1) (fCall gLen (fConsr (fVar 0) fNilr)))) (fB gIx (fVar 0) (fVar 1)) (fC (.int 0)))))
    (fRet (fMo (fLst (fCons (fB gMul (fCall gAbs (fConsr (fVar 2) fNilr)) (fCall gInt (fConsr (fB gGe (fCall gAbs (fConsr (fVar 2) fNilr)) (fB gPow (fC (.int 10)) (fC (.int 18)))) fNilr))) (fCons (fB gAdd (fB gAdd (fB gMod (fCall gInt (fConsr (fVar 2) fNilr)) (fC (.int 2305843009213693951))) (fB gMul (fC (.int 39373)) (fVar 1))) (fC (.int 1943000))) (fCons (fC (.int 0)) fNil)))))))
def b518 (r r7 : Nat → RunF) : FS := (fSeq (fSet 1 (fMv (fLst (fCons (fIsE [("CanNot", false), ("NoPlace", true), ("Unfit", false), ("NoNumber", true), ("NoCell", true), ("NothingDone", true), ("BadLine", false), ("TooMany", false)] (fVar 0)) (fCons (fIsE [("CanNot", true), ("NoPlace", false), ("Unfit", true), ("NoNumber", false), ("NoCell", false), ("NothingDone", false), ("BadLine", true), ("TooMany", true)] (fVar 0)) (fCons (fIsE [("CanNot", false), ("NoPlace", false), ("Unfit", false), ("NoNumber", false), ("NoCell", false), ("NothingDone", false), ("BadLine", false), ("TooMany", false)] (fVar 0)) fNil))))))
    (fSeq (fSet 2 (fMv (fLst (fCons (fIsE [("CanNot", false), ("NoPlace", false), ("Unfit", false), ("NoNumber", false), ("NoCell", false), ("NothingDone", false), ("BadLine", false), ("TooMany", false)] (fVar 0)) (fCons (fIsE [("CanNot", false), ("NoPlace", false), ("Unfit", false), ("NoNumber", false), ("NoCell", false), ("NothingDone", false), ("BadLine", false), ("TooMany", false)] (fVar 0)) fNil)))))
    (fRet (fMo (fB gCat (fB gCat (fVar 1) (fVar 2)) (fLst (fCons (fIsE [("CanNot", false), ("NoPlace", false), ("Unfit", false), ("NoNumber", false), ("NoCell", false), ("NothingDone", false), ("BadLine", false), ("TooMany", false)] (fVar 0)) (fCons (fIsE [("CanNot", false), ("NoPlace", false), ("Unfit", false), ("NoNumber", false), ("NoCell", false), ("NothingDone", false), ("BadLine", false), ("TooMany", false)] (fVar 0)) (fCons (fIsE [("CanNot", true), ("NoPlace", true), ("Unfit", true), ("NoNumber", true), ("NoCell", true), ("NothingDone", true), ("BadLine", true), ("TooMany", true)] (fVar 0)) fNil)))))))))
def b519 (r r7 : Nat → RunF) : FS := (fSeq (fSet 1 (fMv (fLst (fCons (fIsE [("CanNot", false), ("NoPlace", false), ("Unfit", false), ("NoNumber", false), ("NoCell", false), ("NothingDone", false), ("BadLine", true), ("TooMany", false)] (fVar 0)) (fCons (fIsE [("CanNot", true), ("NoPlace", false), ("Unfit", false), ("NoNumber", false), ("NoCell", false), ("NothingDone", false), ("BadLine", false), ("TooMany", false)] (fVar 0)) (fCons (fIsE [("CanNot", false), ("NoPlace", false), ("Unfit", false), ("NoNumber", false), ("NoCell", true), ("NothingDone", false), ("BadLine", false), ("TooMany", false)] (fVar 0)) (fCons (fIsE [("CanNot", false), ("NoPlace", false), ("Unfit", false), ("NoNumber", true), ("NoCell", false), ("NothingDone", false), ("BadLine", false), ("TooMany", false)] (fVar 0)) fNil)))))))
    (fRet (fMo (fB gCat (fVar 1) (fLst (fCons (fIsE [("CanNot", false), ("NoPlace", true), ("Unfit", false), ("NoNumber", false), ("NoCell", false), ("NothingDone", false), ("BadLine", false), ("TooMany", false)] (fVar 0)) (fCons (fIsE [("CanNot", false), ("NoPlace", false), ("Unfit", false), ("NoNumber", false), ("NoCell", false), ("NothingDone", true), ("BadLine", false), ("TooMany", false)] (fVar 0)) (fCons (fIsE [("CanNot", false), ("NoPlace", false), ("Unfit", false), ("NoNumber", false), ("NoCell", false), ("NothingDone", false), ("BadLine", false), ("TooMany", true)] (fVar 0)) (fCons (fIsE [("CanNot", false), ("NoPlace", false), ("Unfit", true), ("NoNumber", false), ("NoCell", false), ("NothingDone", false), ("BadLine", false), ("TooMany", false)] (fVar 0)) fNil)))))))))
def b520 (r r7 : Nat → RunF) : FS := (fSeq (fPar 2 3 (fMv (fB gCat (fB gCat (fLst (fCons (fC (.bl false)) (fCons (fC (.bl true)) fNil))) (fB gRep (fLst (fCons (fC (.bl false)) fNil)) (fC (.int 5)))) (fLst (fCons (fC (.bl true)) fNil)))) (fMv (fB gCat (fB gCat (fLst (fCons (fC (.bl true)) fNil)) (fB gRep (fLst (fCons (fC (.bl false)) fNil)) (fC (.int 6)))) (fLst (fCons (fC (.bl true)) fNil)))))
    (fSeq (fSet 4 (fMv (fLst (fCons (fMk1 "BadLine" "number" (fCons (fVar 0) fNil)) (fCons (fMk0 "CanNot") (fCons (fMk1 "NoCell" "cell" (fCons (fVar 1) fNil)) (fCons (fMk1 "NoNumber" "number" (fCons (fVar 0) fNil)) (fCons (fMk1 "NoPlace" "place" (fCons (fVar 1) fNil)) (fCons (fMk0 "NothingDone") (fCons (fMk0 "TooMany") (fCons (fMk0 "Unfit") fNil)))))))))))
    (fSeq (fSet 5 (fMo (fLst (fCons (fLst (fCons (fAtt ["NoNumber", "BadLine"] "number" (fB gIx (fVar 4) (fC (.int 0)))) (fCons (fAtt ["NoCell"] "cell" (fB gIx (fVar 4) (fC (.int 2)))) (fCons (fAtt ["NoNumber", "BadLine"] "number" (fB gIx (fVar 4) (fC (.int 3)))) (fCons (fAtt ["NoPlace"] "place" (fB gIx (fVar 4) (fC (.int 4)))) fNil))))) fNil))))
    (fSeq (fApp 5 (fLst (fCons (fAtt ["NoNumber", "BadLine"] "number" (fMk1 "BadLine" "number" (fCons (fVar 0) fNil))) (fCons (fAtt ["NoCell"] "cell" (fMk1 "NoCell" "cell" (fCons (fVar 1) fNil))) (fCons (fAtt ["NoNumber", "BadLine"] "number" (fMk1 "NoNumber" "number" (fCons (fVar 0) fNil))) (fCons (fAtt ["NoPlace"] "place" (fMk1 "NoPlace" "place" (fCons (fVar 1) fNil))) fNil))))))
    (fSeq (fSet 6 (fMv (fB gRep (fLst (fCons (fLst (fCons (fVar 0) (fCons (fVar 1) (fCons (fVar 0) (fCons (fVar 1) fNil))))) fNil)) (fC (.int 2)))))
    (fSeq (fFor (fEn (fVar 4)) (.tp [(.nm 7), (.nm 8)]) (fSeq (fSet 5 (fMo (fB gCat (fVar 5) (fLst (fCons (fFnN 1 (r7 518) (fCons (fVar 8) fNil)) (fCons (fFnN 1 (r7 519) (fCons (fVar 8) fNil)) fNil))))))
    (fSet 6 (fMv (fB gCat (fVar 6) (fLst (fCons (fIf (fTB (fCh (cmpI .LtE) (cmpI .LtE) (fC (.int 2)) (fVar 7) (fC (.int 5)))) (fVar 3) (fVar 2)) (fCons (fLc (fRng1 (fC (.int 8))) (.nm 9) fYes (fB gEq (fVar 9) (fVar 7)) [9]) fNil))))))))
    (fFrz 5 (fRet (fMv (fFn 2 (r 17) (fCons (fVar 5) (fCons (fVar 6) fNil))))))))))))
def b521 (r r7 : Nat → RunF) : FS := (fSeq (fSet 1 (fMv (fB gMul (fB gSub (fFn 2 (r 12) (fCons (fVar 0) (fCons (fC (.int 3)) fNil))) (fC (.int 1))) (fFn 2 (r 14) (fCons (fVar 0) (fCons (fLst (fCons (fC (.int 0)) (fCons (fC (.int 1)) (fCons (fC (.int 7)) (fCons (fB gPow (fC (.int 10)) (fC (.int 6))) (fCons (fFn 2 (r 12) (fCons (fVar 0) (fCons (fC (.int 1000)) fNil))) fNil)))))) fNil))))))
    (fRet (fMv (fFn 2 (r7 520) (fCons (fVar 1) (fCons (fCall gTuple (fConsr (fLc (fRng1 (fFn 2 (r 12) (fCons (fVar 0) (fCons (fC (.int 4)) fNil)))) (.nm 2) fYes (fFn 2 (r 12) (fCons (fVar 0) (fCons (fC (.int 5)) fNil))) [2]) fNilr)) fNil))))))
def b522 (r r7 : Nat → RunF) : FS := (fSeq (fIfS (fNot (fTT (fCall gAll (fConsr (fLc (fAny (fTup (fCons (fTup (fCons (fC (.int 0)) (fCons (fTup fNil) fNil))) (fCons (fTup (fCons (fNeg (fC (.int 1))) (fCons (fTup (fCons (fC (.int 0)) fNil)) fNil))) (fCons (fTup (fCons (fB gPow (fC (.int 10)) (fC (.int 6))) (fCons (fTup (fCons (fC (.int 2)) (fCons (fC (.int 0)) (fCons (fC (.int 1)) fNil)))) fNil))) fNil))))) (.nm 1) fYes (fFn 2 (r7 520) (fCons (fB gIx (fVar 1) (fC (.int 0))) (fCons (fB gIx (fVar 1) (fC (.int 1))) fNil))) [1]) fNilr)))) (fRet (fMv (fC (.bl false)))) fNext)
    (fSeq (fSet 2 (fMv (fFnN 2 (r 13) (fCons (fVar 0) (fCons (fC (.int 2)) fNil)))))
    (fRet (fMv (fCall gAll (fConsr (fLc (fRng1 (fCall gLen (fConsr (fVar 2) fNilr))) (.nm 3) fYes (fBox (r7 521) (fFnN 2 (r7 517) (fCons (fVar 2) (fCons (fVar 3) fNil)))) [3]) fNilr))))))
def run7 : Nat → Nat → RunF
  | 0, _ => fun _ _ => .bad
  | k + 1, 517 => runOf 3 (b517 (run k) (run7 k))
  | k + 1, 518 => runOf 3 (b518 (run k) (run7 k))
  | k + 1, 519 => runOf 2 (b519 (run k) (run7 k))
  | k + 1, 520 => runOf 10 (b520 (run k) (run7 k))
  | k + 1, 521 => runOf 3 (b521 (run k) (run7 k))
  | k + 1, 522 => runOf 4 (b522 (run k) (run7 k))
  | _ + 1, _ => fun _ _ => .bad
end Kx
set_option linter.all false
set_option maxRecDepth 100000
set_option maxHeartbeats 4000000
namespace Kx
open PySem Q
inductive Fm where
  | op
  | nd (s : Str) (ps : List Fm)
mutual
/-- the depth -/
def Fm.dp : Fm → Nat
  | .op => 0
  | .nd _ ps => Fm.dps ps + 1
def Fm.dps : List Fm → Nat
  | [] => 0
  | p :: ps => max (Fm.dp p) (Fm.dps ps)
end
def sqd : Bool → List D → D
  | true, ds => .lst ds
  | false, ds => .tup ds
mutual
def Fm.d (b : Bool) : Fm → D
  | .op => sqd b []
  | .nd s ps => sqd b (.str s :: Fm.ds b ps)
def Fm.ds (b : Bool) : List Fm → List D
  | [] => []
  | p :: ps => Fm.d b p :: Fm.ds b ps
end
theorem ds_len (b : Bool) : ∀ ps : List Fm, (Fm.ds b ps).length = ps.length
  | [] => rfl
  | p :: ps => congrArg (· + 1) (ds_len b ps)
mutual
/-- few parts everywhere -/
def Fm.few : Fm → Bool
  | .op => true
  | .nd _ ps => decide (ps.length ≤ 1000) && Fm.fews ps
def Fm.fews : List Fm → Bool
  | [] => true
  | p :: ps => Fm.few p && Fm.fews ps
end
theorem dps_mem : ∀ {ps : List Fm} {p : Fm}, p ∈ ps → p.dp ≤ Fm.dps ps
  | q :: ps, p, h => by
    simp only [Fm.dps]
    rcases List.mem_cons.mp h with e | h
    · subst e; omega
    · have := dps_mem h; omega


theorem n1_ne (n : Nat) : ((n : Int) + 1 = 0) = False := by
  simp only [eq_iff_iff, iff_false]; omega
theorem n1_beq (n : Nat) : ((n : Int) + 1 == 0) = false := by
  simp only [beq_eq_false_iff_ne]; omega
theorem n1_bne (n : Nat) : ((n : Int) + 1 != 0) = true := by
  simp only [bne_iff_ne]; omega
theorem n1_pos (n : Nat) : (0 ≤ (n : Int) + 1) = True := by
  simp only [eq_iff_iff, iff_true]; omega
theorem cut1 {α : Type} (d : α) (ds : List α) : cut (d :: ds) (some 1) none = ds := by
  have h : min (1 : Int).toNat (ds.length + 1) = 1 := by
    have : (1 : Int).toNat = 1 := rfl
    omega
  simp [cut, HT.sIx, h]
theorem srcD_sq (b : Bool) (ds : List D) : srcD (sqd b ds) = some ds := by cases b <;> rfl
local macro_rules | `(tactic| simp_arith [$as,*] $[$l]?) => `(tactic| simp [runOf, envOf, fSeq, fIfS, fTB, fB, gEq, gNe, gGt, gLt, gLe, gGe, gIB, fVar, fC, gIx, sq, Res.bind, Res.to, L2.atI, L2.ixN, fSet, fMv, fMo, fSetIx, fRet, gMod, gDiv, gI, gAdd, gMul, fCall, fConsr, fNilr, gInt, getL, putL, SqD.items, fOr, fAnd, fOrV, fAndV, fNotV, fNot, fTT, tru, fFn, fCons, fNil, fNext, gLen, rd, fYes, wipeE, Tg.bind, Tg.binds, Res.nx, fZp, srcD, zipD, fSl, gSl, fSomeO, fNoO, fTup, fLst, fLc, List.replicate, D.scal2, D.eq, D.eqs, D.plain, D.plains, D.dep, D.deps, LIM, n1_ne, n1_beq, n1_bne, n1_pos, cut1, srcD_sq, fIf, gTuple, gList, fRaise, gIsN, gNotN, RV.isN, fIsi, tyName, fAny, $as,*] $[$l]?)
def unl (s : Str) (n : Nat) (t : Str) (m : Nat) : Bool := decide (n ≠ m) || decide (s ≠ t)
mutual
def lies : Fm → Fm → Bool
  | .op, _ => true
  | .nd _ _, .op => false
  | .nd s ps, .nd t qs => if unl s ps.length t qs.length then false else liesA ps qs
def liesA : List Fm → List Fm → Bool
  | p :: ps, q :: qs => lies p q && liesA ps qs
  | _, _ => true
end
theorem bls_map : ∀ l : List Bool, bls (l.map .bl) = some l
  | [] => rfl
  | b :: l => by simp_arith [bls, bls_map l]
end Kx
set_option linter.all false
set_option maxRecDepth 100000
set_option maxHeartbeats 4000000
namespace Kx
open PySem Q
local macro_rules | `(tactic| simp_arith [$as,*] $[$l]?) => `(tactic| simp [runOf, envOf, fSeq, fIfS, fTB, fB, gEq, gNe, gGt, gLt, gLe, gGe, gIB, fVar, fC, gIx, sq, Res.bind, Res.to, L2.atI, L2.ixN, fSet, fMv, fMo, fSetIx, fRet, gMod, gDiv, gI, gAdd, gMul, fCall, fConsr, fNilr, gInt, getL, putL, SqD.items, fOr, fAnd, fOrV, fAndV, fNotV, fNot, fTT, tru, fFn, fCons, fNil, fNext, gLen, rd, fYes, wipeE, Tg.bind, Tg.binds, Res.nx, fZp, srcD, zipD, fSl, gSl, fSomeO, fNoO, fTup, fLst, fLc, List.replicate, D.scal2, D.eq, D.eqs, D.plain, D.plains, D.dep, D.deps, LIM, n1_ne, n1_beq, n1_bne, n1_pos, cut1, srcD_sq, fIf, gTuple, gList, fRaise, gIsN, gNotN, RV.isN, fIsi, tyName, fAny, $as,*] $[$l]?)
mutual
def agr : Fm → Fm → Bool
  | .op, _ => true
  | .nd _ _, .op => true
  | .nd s ps, .nd t qs => if unl s ps.length t qs.length then false else agrA ps qs
def agrA : List Fm → List Fm → Bool
  | p :: ps, q :: qs => agr p q && agrA ps qs
  | _, _ => true
end
end Kx
set_option linter.all false
set_option maxRecDepth 100000
set_option maxHeartbeats 4000000
namespace Kx
open PySem Q
local macro_rules | `(tactic| simp_arith [$as,*] $[$l]?) => `(tactic| simp [runOf, envOf, fSeq, fIfS, fTB, fB, gEq, gNe, gGt, gLt, gLe, gGe, gIB, fVar, fC, gIx, sq, Res.bind, Res.to, L2.atI, L2.ixN, fSet, fMv, fMo, fSetIx, fRet, gMod, gDiv, gI, gAdd, gMul, fCall, fConsr, fNilr, gInt, getL, putL, SqD.items, fOr, fAnd, fOrV, fAndV, fNotV, fNot, fTT, tru, fFn, fCons, fNil, fNext, gLen, rd, fYes, wipeE, Tg.bind, Tg.binds, Res.nx, fZp, srcD, zipD, fSl, gSl, fSomeO, fNoO, fTup, fLst, fLc, List.replicate, D.scal2, D.eq, D.eqs, D.plain, D.plains, D.dep, D.deps, LIM, n1_ne, n1_beq, n1_bne, n1_pos, cut1, srcD_sq, fIf, gTuple, gList, fRaise, gIsN, gNotN, RV.isN, fIsi, isi, subTy, tyGo, tyName, fAny, $as,*] $[$l]?)
end Kx
set_option linter.all false
set_option maxRecDepth 100000
set_option maxHeartbeats 4000000
namespace Kx
open PySem Q
local macro_rules | `(tactic| simp_arith [$as,*] $[$l]?) => `(tactic| simp [runOf, envOf, fSeq, fIfS, fTB, fB, gEq, gNe, gGt, gLt, gLe, gGe, gIB, fVar, fC, gIx, sq, Res.bind, Res.to, L2.atI, L2.ixN, fSet, fMv, fMo, fSetIx, fRet, gMod, gDiv, gI, gAdd, gMul, fCall, fConsr, fNilr, gInt, getL, putL, SqD.items, fOr, fAnd, fOrV, fAndV, fNotV, fNot, fTT, tru, fFn, fCons, fNil, fNext, gLen, rd, fYes, wipeE, Tg.bind, Tg.binds, Res.nx, fZp, srcD, zipD, fSl, gSl, fSomeO, fNoO, fTup, fLst, fLc, List.replicate, D.scal2, D.eq, D.eqs, D.plain, D.plains, D.dep, D.deps, LIM, n1_ne, n1_beq, n1_bne, n1_pos, cut1, srcD_sq, fIf, gTuple, gList, fRaise, gIsN, gNotN, RV.isN, fIsi, isi, subTy, tyGo, tyName, fAny, $as,*] $[$l]?)
end Kx
set_option linter.all false
set_option maxRecDepth 100000
set_option maxHeartbeats 4000000
namespace Kx
open PySem Q
local macro_rules | `(tactic| simp_arith [$as,*] $[$l]?) => `(tactic| simp [runOf, envOf, fSeq, fIfS, fTB, fB, gEq, gNe, gGt, gLt, gLe, gGe, gIB, fVar, fC, gIx, sq, Res.bind, Res.to, L2.atI, L2.ixN, fSet, fMv, fMo, fSetIx, fRet, gMod, gDiv, gI, gAdd, gMul, fCall, fConsr, fNilr, gInt, getL, putL, SqD.items, fOr, fAnd, fOrV, fAndV, fNotV, fNot, fTT, tru, fFn, fCons, fNil, fNext, gLen, rd, fYes, wipeE, Tg.bind, Tg.binds, Res.nx, fZp, srcD, zipD, fSl, gSl, fSomeO, fNoO, fTup, fLst, fLc, List.replicate, D.scal2, D.eq, D.eqs, D.plain, D.plains, D.dep, D.deps, LIM, n1_ne, n1_beq, n1_bne, n1_pos, cut1, srcD_sq, fIf, gTuple, gList, fRaise, gIsN, gNotN, RV.isN, fIsi, isi, subTy, tyGo, tyName, fAny, $as,*] $[$l]?)
def pl (l : List Nat) : D := .tup (l.map fun (n : Nat) => .int (n : Int))
end Kx
set_option linter.all false
set_option maxRecDepth 100000
set_option maxHeartbeats 4000000
namespace Kx
open PySem Q
local macro_rules | `(tactic| simp_arith [$as,*] $[$l]?) => `(tactic| simp [runOf, envOf, fSeq, fIfS, fTB, fB, gEq, gNe, gGt, gLt, gLe, gGe, gIB, fVar, fC, gIx, sq, Res.bind, Res.to, L2.atI, L2.ixN, fSet, fMv, fMo, fSetIx, fRet, gMod, gDiv, gI, gAdd, gMul, fCall, fConsr, fNilr, gInt, getL, putL, SqD.items, fOr, fAnd, fOrV, fAndV, fNotV, fNot, fTT, tru, fFn, fCons, fNil, fNext, gLen, rd, fYes, wipeE, Tg.bind, Tg.binds, Res.nx, fZp, srcD, zipD, fSl, gSl, fSomeO, fNoO, fTup, fLst, fLc, List.replicate, D.scal2, D.eq, D.eqs, D.plain, D.plains, D.dep, D.deps, LIM, n1_ne, n1_beq, n1_bne, n1_pos, cut1, srcD_sq, fIf, gTuple, gList, fRaise, gIsN, gNotN, RV.isN, fIsi, isi, subTy, tyGo, tyName, fAny, $as,*] $[$l]?)
mutual
/-- the number of places -/
def Fm.sz : Fm → Nat
  | .op => 1
  | .nd _ ps => Fm.szs ps + 1
def Fm.szs : List Fm → Nat
  | [] => 0
  | p :: ps => Fm.sz p + Fm.szs ps
end
mutual
def spots : Fm → List (List Nat)
  | .op => [[]]
  | .nd _ ps => [] :: spA 0 ps
def spA : Nat → List Fm → List (List Nat)
  | _, [] => []
  | n, p :: ps => (spots p).map (n :: ·) ++ spA (n + 1) ps
end
end Kx
set_option linter.all false
set_option maxRecDepth 100000
set_option maxHeartbeats 4000000
namespace Kx
open PySem Q
local macro_rules | `(tactic| simp_arith [$as,*] $[$l]?) => `(tactic| simp [runOf, envOf, fSeq, fIfS, fTB, fB, gEq, gNe, gGt, gLt, gLe, gGe, gIB, fVar, fC, gIx, sq, Res.bind, Res.to, L2.atI, L2.ixN, fSet, fMv, fMo, fSetIx, fRet, gMod, gDiv, gI, gAdd, gMul, fCall, fConsr, fNilr, gInt, getL, putL, SqD.items, fOr, fAnd, fOrV, fAndV, fNotV, fNot, fTT, tru, fFn, fCons, fNil, fNext, gLen, rd, fYes, wipeE, Tg.bind, Tg.binds, Res.nx, fZp, srcD, zipD, fSl, gSl, fSomeO, fNoO, fTup, fLst, fLc, List.replicate, D.scal2, D.eq, D.eqs, D.plain, D.plains, D.dep, D.deps, LIM, n1_ne, n1_beq, n1_bne, n1_pos, cut1, srcD_sq, fIf, gTuple, gList, fRaise, gIsN, gNotN, RV.isN, fIsi, isi, subTy, tyGo, tyName, fAny, $as,*] $[$l]?)
def pt : List Nat → Fm → Option Fm
  | [], f => some f
  | _ :: _, .op => none
  | i :: l, .nd _ ps => match ps[i]? with
    | some p => pt l p
    | none => none
mutual
def Fm.ok : Fm → Bool
  | .op => true
  | .nd s ps => PyData.strOk s && Fm.oks ps
def Fm.oks : List Fm → Bool
  | [] => true
  | p :: ps => Fm.ok p && Fm.oks ps
end
abbrev Sg := Str × Nat
end Kx
set_option linter.all false
set_option maxRecDepth 100000
set_option maxHeartbeats 4000000
namespace Kx
open PySem Q
local macro_rules | `(tactic| simp_arith [$as,*] $[$l]?) => `(tactic| simp [runOf, envOf, fSeq, fIfS, fTB, fB, gEq, gNe, gGt, gLt, gLe, gGe, gIB, fVar, fC, gIx, sq, Res.bind, Res.to, L2.atI, L2.ixN, fSet, fMv, fMo, fSetIx, fRet, gMod, gDiv, gI, gAdd, gMul, fCall, fConsr, fNilr, gInt, getL, putL, SqD.items, fOr, fAnd, fOrV, fAndV, fNotV, fNot, fTT, tru, fFn, fCons, fNil, fNext, gLen, rd, fYes, wipeE, Tg.bind, Tg.binds, Res.nx, fZp, srcD, zipD, fSl, gSl, fSomeO, fNoO, fTup, fLst, fLc, List.replicate, D.scal2, D.eq, D.eqs, D.plain, D.plains, D.dep, D.deps, n1_ne, n1_beq, n1_bne, n1_pos, cut1, srcD_sq, fIf, gTuple, gList, fRaise, gIsN, gNotN, RV.isN, fIsi, isi, subTy, tyGo, tyName, fAny, $as,*] $[$l]?)
theorem fLc_eq {fi : FI} {t : Tg} {ft : FT} {fe : FE} {vs : List Nat} {env : En} {μ μ1 μ2 : Mu} {ds l : List D} (h1 : fi env μ = .ok ds μ1) (h2 : ds.length ≤ LIM) (h3 : lcLoop t ft fe (wipeE env vs) ds μ1 [] = .ok l μ2) : fLc fi t ft fe vs env μ = .ok (.val (.lst l)) μ2 := by
  unfold fLc
  rw [h1]
  simp only [Res.bind, if_pos h2, h3]
theorem fRng1_eq {fa : FE} {env : En} {μ μ1 : Mu} {n : Nat} (h : fa env μ = .ok (.val (.int (n : Int))) μ1) (hr : rngOk (n : Int) = true) : fRng1 fa env μ = .ok (rangeD 0 n) μ1 := by
  unfold fRng1
  rw [h]
  simp only [Res.bind, hr, if_true, Int.toNat_natCast]
def en1 (f : Fm) (l : List Nat) : Option (List Nat × Sg) := match pt l f with
  | some (.nd s ps) => some (l, (s, ps.length))
  | _ => none
def mp (f : Fm) : List (List Nat × Sg) := (spots f).filterMap (en1 f)
end Kx
set_option linter.all false
set_option maxRecDepth 100000
set_option maxHeartbeats 4000000
namespace Kx
open PySem Q
local macro_rules | `(tactic| simp_arith [$as,*] $[$l]?) => `(tactic| simp [runOf, envOf, fSeq, fIfS, fTB, fB, gEq, gNe, gGt, gLt, gLe, gGe, gIB, fVar, fC, gIx, sq, Res.bind, Res.to, L2.atI, L2.ixN, fSet, fMv, fMo, fSetIx, fRet, gMod, gDiv, gI, gAdd, gMul, fCall, fConsr, fNilr, gInt, getL, putL, SqD.items, fOr, fAnd, fOrV, fAndV, fNotV, fNot, fTT, tru, fFn, fCons, fNil, fNext, gLen, rd, fYes, wipeE, Tg.bind, Tg.binds, Res.nx, fZp, srcD, zipD, fSl, gSl, fSomeO, fNoO, fTup, fLst, fLc, List.replicate, D.scal2, D.eq, D.eqs, D.plain, D.plains, D.dep, D.deps, LIM, n1_ne, n1_beq, n1_bne, n1_pos, cut1, srcD_sq, fIf, gTuple, gList, fRaise, gIsN, gNotN, RV.isN, fIsi, isi, subTy, tyGo, tyName, fAny, $as,*] $[$l]?)
theorem fSeq_nxt {f g : FS} {env env' : En} {μ μ' : Mu} (h : f env μ = .nxt env' μ') : fSeq f g env μ = g env' μ' := by
  unfold fSeq
  rw [h]
theorem fFor_nxt {fi : FI} {t : Tg} {fb : FS} {env : En} {μ μ1 : Mu} {ds : List D} {r : SRes} (h : fi env μ = .ok ds μ1) (hl : loop t fb ds env μ1 = r) : fFor fi t fb env μ = r := by
  unfold fFor
  rw [h]
  exact hl
end Kx
set_option linter.all false
set_option maxRecDepth 100000
set_option maxHeartbeats 4000000
namespace Kx
open PySem Q
local macro_rules | `(tactic| simp_arith [$as,*] $[$l]?) => `(tactic| simp [runOf, envOf, fSeq, fIfS, fTB, fB, gEq, gNe, gGt, gLt, gLe, gGe, gIB, fVar, fC, gIx, sq, Res.bind, Res.to, L2.atI, L2.ixN, fSet, fMv, fMo, fSetIx, fRet, gMod, gDiv, gI, gAdd, gMul, fCall, fConsr, fNilr, gInt, getL, putL, SqD.items, fOr, fAnd, fOrV, fAndV, fNotV, fNot, fTT, tru, fFn, fCons, fNil, fNext, gLen, rd, fYes, wipeE, Tg.bind, Tg.binds, Res.nx, fZp, srcD, zipD, fSl, gSl, fSomeO, fNoO, fTup, fLst, fLc, List.replicate, D.scal2, D.eq, D.eqs, D.plain, D.plains, D.dep, D.deps, LIM, n1_ne, n1_beq, n1_bne, n1_pos, cut1, srcD_sq, fIf, gTuple, gList, fRaise, gIsN, gNotN, RV.isN, fIsi, isi, subTy, tyGo, tyName, fAny, $as,*] $[$l]?)
end Kx
set_option linter.all false
set_option maxRecDepth 100000
set_option maxHeartbeats 4000000
namespace Kx
open PySem Q
end Kx
set_option linter.all false
set_option maxRecDepth 100000
set_option maxHeartbeats 4000000
namespace Kx
open PySem Q
end Kx
set_option linter.all false
set_option maxRecDepth 100000
set_option maxHeartbeats 4000000
namespace Kx
open PySem Q
end Kx
set_option linter.all false
set_option maxRecDepth 100000
set_option maxHeartbeats 4000000
namespace Kx
open PySem Q
end Kx
set_option linter.all false
set_option maxRecDepth 100000
set_option maxHeartbeats 4000000
namespace Kx
open PySem Q
end Kx
set_option linter.all false
set_option maxRecDepth 100000
set_option maxHeartbeats 4000000
namespace Kx
open PySem Q
end Kx
set_option linter.all false
set_option maxRecDepth 100000
set_option maxHeartbeats 4000000
namespace Kx
open PySem Q
end Kx
set_option linter.all false
set_option maxRecDepth 100000
set_option maxHeartbeats 4000000
namespace Kx
open PySem Q
end Kx
set_option linter.all false
set_option maxRecDepth 100000
set_option maxHeartbeats 4000000
namespace Kx
open PySem Q
end Kx
set_option linter.all false
set_option maxRecDepth 100000
set_option maxHeartbeats 4000000
namespace Kx
open PySem Q
end Kx
set_option linter.all false
set_option maxRecDepth 100000
set_option maxHeartbeats 4000000
namespace Kx
open PySem Q
end Kx
set_option linter.all false
set_option maxRecDepth 100000
set_option maxHeartbeats 4000000
namespace Kx
open PySem Q
local macro_rules | `(tactic| simp_arith [$as,*] $[$l]?) => `(tactic| simp [runOf, envOf, fSeq, fIfS, fTB, fB, gEq, gNe, gGt, gLt, gLe, gGe, gIB, fVar, fC, gIx, sq, Res.bind, Res.to, L2.atI, L2.ixN, fSet, fMv, fMo, fSetIx, fRet, gMod, gDiv, gI, gAdd, gMul, fCall, fConsr, fNilr, gInt, getL, putL, SqD.items, fOr, fAnd, fOrV, fAndV, fNotV, fNot, fTT, tru, fFn, fCons, fNil, fNext, gLen, rd, fYes, wipeE, Tg.bind, Tg.binds, Res.nx, fZp, srcD, zipD, fSl, gSl, fSomeO, fNoO, fTup, fLst, fLc, List.replicate, D.scal2, D.eq, D.eqs, D.plain, D.plains, D.dep, D.deps, LIM, n1_ne, n1_beq, n1_bne, n1_pos, cut1, srcD_sq, fIf, gTuple, gList, fRaise, gIsN, gNotN, RV.isN, fIsi, isi, subTy, tyGo, tyName, fAny, $as,*] $[$l]?)
mutual
/-- data that the law compares -/
def nice : D → Bool
  | .non => true
  | .bl _ => true
  | .int _ => true
  | .str _ => true
  | .tup xs => nices xs
  | .lst xs => nices xs
  | _ => false
def nices : List D → Bool
  | [] => true
  | x :: xs => nice x && nices xs
end
theorem same_loop (r : RunF) (x y : EV) (μ : Mu) : ∀ (ds : List D) (acc : List D), (∀ d ∈ ds, r [d, d] μ = .ok (.val (.bl true)) μ) →
    lcLoop (.tp [.nm 2, .nm 3]) fYes (fFn 2 r (fCons (fVar 2) (fCons (fVar 3) fNil))) [x, y, .un, .un] (zipD ds ds) μ acc = .ok (acc ++ ds.map fun _ => .bl true) μ
  | [], acc, _ => by simp [zipD, lcLoop]
  | d :: ds, acc, h => by
    have h1 := h d List.mem_cons_self
    have ih := same_loop r x y μ ds (acc ++ [.bl true]) fun e he => h e (List.mem_cons_of_mem _ he)
    simp [zipD, lcLoop, Tg.bind, Tg.binds, fYes, fFn, fCons, fVar, fNil, Res.nx, Res.bind, h1]
    simpa [fFn] using ih
end Kx
set_option linter.all false
set_option maxRecDepth 100000
set_option maxHeartbeats 4000000
namespace Kx
open PySem Q
local macro_rules | `(tactic| simp_arith [$as,*] $[$l]?) => `(tactic| simp [runOf, envOf, fSeq, fIfS, fTB, fB, gEq, gNe, gGt, gLt, gLe, gGe, gIB, fVar, fC, gIx, sq, Res.bind, Res.to, L2.atI, L2.ixN, fSet, fMv, fMo, fSetIx, fRet, gMod, gDiv, gI, gAdd, gMul, fCall, fConsr, fNilr, gInt, getL, putL, SqD.items, fOr, fAnd, fOrV, fAndV, fNotV, fNot, fTT, tru, fFn, fCons, fNil, fNext, gLen, rd, fYes, wipeE, Tg.bind, Tg.binds, Res.nx, fZp, srcD, zipD, fSl, gSl, fSomeO, fNoO, fTup, fLst, fLc, List.replicate, D.scal2, D.eq, D.eqs, D.plain, D.plains, D.dep, D.deps, LIM, n1_ne, n1_beq, n1_bne, n1_pos, cut1, srcD_sq, fIf, gTuple, gList, fRaise, gIsN, gNotN, RV.isN, fIsi, isi, subTy, tyGo, tyName, fAny, $as,*] $[$l]?)
theorem bls_true : ∀ ds : List D, bls (ds.map fun _ => D.bl true) = some (ds.map fun _ => true)
  | [] => rfl
  | d :: ds => by simp [bls, bls_true ds]
theorem nices_mem : ∀ {ds : List D} {d : D}, nices ds = true → d ∈ ds → nice d = true
  | x :: ds, d, h, m => by
    simp only [nices, Bool.and_eq_true] at h
    rcases List.mem_cons.mp m with e | m
    · rw [e]; exact h.1
    · exact nices_mem h.2 m
theorem ddeps_mem : ∀ {ds : List D} {d : D}, d ∈ ds → D.dep d ≤ D.deps ds
  | x :: ds, d, m => by
    simp only [D.deps]
    rcases List.mem_cons.mp m with e | m
    · rw [e]; omega
    · have := ddeps_mem m; omega
mutual
def wide : D → Bool
  | .tup xs => decide (xs.length ≤ 16777216) && wides xs
  | .lst xs => decide (xs.length ≤ 16777216) && wides xs
  | _ => true
def wides : List D → Bool
  | [] => true
  | x :: xs => wide x && wides xs
end
theorem wides_mem : ∀ {ds : List D} {d : D}, wides ds = true → d ∈ ds → wide d = true
  | x :: ds, d, h, m => by
    simp only [wides, Bool.and_eq_true] at h
    rcases List.mem_cons.mp m with e | m
    · rw [e]; exact h.1
    · exact wides_mem h.2 m
theorem same_ok : ∀ (k : Nat) (d : D) (μ : Mu), D.dep d + 1 ≤ k → nice d = true → wide d = true → run k 17 [d, d] μ = .ok (.val (.bl true)) μ
  | 0, _, _, h, _, _ => by omega
  | k + 1, d, μ, hk, hn, hw => by
    have e : run (k+1) 17 = runOf 4 (b17 (run k)) := rfl
    rw [e]
    cases d with
    | non => simp_arith [b17]
    | bl b => cases b <;> simp_arith [b17]
    | int i => simp_arith [b17]
    | str x => simp_arith [b17]
    | frz _ => simp [nice] at hn
    | loc _ => simp [nice] at hn
    | ty _ => simp [nice] at hn
    | dct _ _ => simp [nice] at hn
    | exc _ _ _ => simp [nice] at hn
    | tup ds =>
      simp only [nice] at hn
      simp only [D.dep] at hk
      simp only [wide, Bool.and_eq_true, decide_eq_true_eq] at hw
      have L := same_loop (run k 17) (.val (.tup ds)) (.val (.tup ds)) μ ds [] fun e he => same_ok k e μ (by have := ddeps_mem he; omega) (nices_mem hn he) (wides_mem hw.2 he)
      have z : (zipD ds ds).length ≤ 16777216 := by rw [zipD_len]; omega
      have q := bls_true ds
      simp_arith [] at L
      simp_arith [b17, L, z, gAll, gBls, q]
    | lst ds =>
      simp only [nice] at hn
      simp only [D.dep] at hk
      simp only [wide, Bool.and_eq_true, decide_eq_true_eq] at hw
      have L := same_loop (run k 17) (.val (.lst ds)) (.val (.lst ds)) μ ds [] fun e he => same_ok k e μ (by have := ddeps_mem he; omega) (nices_mem hn he) (wides_mem hw.2 he)
      have z : (zipD ds ds).length ≤ 16777216 := by rw [zipD_len]; omega
      have q := bls_true ds
      simp_arith [] at L
      simp_arith [b17, L, z, gAll, gBls, q]
end Kx
set_option linter.all false
set_option maxRecDepth 100000
set_option maxHeartbeats 4000000
namespace Kx
open PySem Q
mutual
theorem d_eq : ∀ f g : Fm, D.eq (f.d false) (g.d false) = true ↔ f = g
  | .op, .op => by simp [Fm.d, sqd, D.eq, D.eqs]
  | .op, .nd _ _ => by simp [Fm.d, sqd, D.eq, D.eqs]
  | .nd _ _, .op => by simp [Fm.d, sqd, D.eq, D.eqs]
  | .nd s ps, .nd t qs => by
    have h := ds_eq ps qs
    simp [Fm.d, sqd, D.eq, D.eqs, h]
theorem ds_eq : ∀ ps qs : List Fm, D.eqs (Fm.ds false ps) (Fm.ds false qs) = true ↔ ps = qs
  | [], [] => by simp [Fm.ds, D.eqs]
  | [], _ :: _ => by simp [Fm.ds, D.eqs]
  | _ :: _, [] => by simp [Fm.ds, D.eqs]
  | p :: ps, q :: qs => by
    have h1 := d_eq p q
    have h2 := ds_eq ps qs
    simp [Fm.ds, D.eqs, h1, h2]
end
end Kx
set_option Elab.async false
set_option linter.all false
set_option maxRecDepth 100000
set_option maxHeartbeats 4000000
namespace Gn
open PySem Q
def bTake : FS := (fSeq (fIfS (fTB (fB gGt (fB gIx (fVar 0) (fC (.int 0))) (fC (.int 0)))) (fSeq (fSet 2 (fMv (fB gMod (fCall gInt (fConsr (fB gIx (fVar 0) (fC (.int 0))) fNilr)) (fVar 1))))
    (fSeq (fSetIx 0 (fB gDiv (fB gIx (fVar 0) (fC (.int 0))) (fVar 1)) (fC (.int 0)))
    (fRet (fMv (fVar 2))))) fNext)
    (fSeq (fSetIx 0 (fB gAdd (fB gIx (fVar 0) (fC (.int 2))) (fC (.int 1))) (fC (.int 2)))
    (fSeq (fSet 3 (fMv (fB gMod (fCall gInt (fConsr (fB gMul (fB gAdd (fB gIx (fVar 0) (fC (.int 1))) (fB gMul (fC (.int 48271)) (fB gIx (fVar 0) (fC (.int 2))))) (fB gAdd (fC (.int 39373)) (fB gIx (fVar 0) (fC (.int 2))))) fNilr)) (fC (.int 2147483647)))))
    (fSeq (fSet 4 (fMv (fB gAdd (fB gMod (fCall gInt (fConsr (fVar 3) fNilr)) (fC (.int 40009))) (fC (.int 7)))))
    (fSeq (fSet 5 (fMv (fB gMod (fCall gInt (fConsr (fB gMul (fB gAdd (fB gAdd (fVar 3) (fB gIx (fVar 0) (fC (.int 2)))) (fB gDiv (fB gIx (fVar 0) (fC (.int 1))) (fC (.int 1000003)))) (fVar 4)) fNilr)) (fC (.int 2147483629)))))
    (fRet (fMv (fB gMod (fCall gInt (fConsr (fB gDiv (fB gMod (fCall gInt (fConsr (fB gAdd (fB gMul (fVar 5) (fC (.int 48271))) (fVar 3)) fNilr)) (fC (.int 2147483587))) (fC (.int 64))) fNilr)) (fVar 1)))))))))
def boxD (a b c : Int) : List D := [.int a, .int b, .int c]
def Bx (N : Nat) (μ : Mu) : Prop := ∃ a b c : Int, μ = [boxD a b c] ∧ 0 ≤ a ∧ 0 ≤ c ∧ c ≤ (N : Int)
theorem Bx.up {N M : Nat} {μ : Mu} (h : Bx N μ) (hm : N ≤ M) : Bx M μ := by
  obtain ⟨a, b, c, h1, h2, h3, h4⟩ := h
  exact ⟨a, b, c, h1, h2, h3, by omega⟩
theorem fSeq_nxt {f g : FS} {env env' : En} {μ μ' : Mu} (h : f env μ = .nxt env' μ') : fSeq f g env μ = g env' μ' := by
  unfold fSeq; rw [h]
theorem fSeq_ret {f g : FS} {env : En} {μ μ' : Mu} {v : EV} (h : f env μ = .ret v μ') : fSeq f g env μ = .ret v μ' := by
  unfold fSeq; rw [h]
theorem loop_nxt {t : Tg} {b : FS} {d : D} {ds : List D} {env env1 env2 : En} {μ μ1 : Mu} (hb : t.bind d env = some env1) (h : b env1 μ = .nxt env2 μ1) : loop t b (d :: ds) env μ = loop t b ds env2 μ1 := by
  simp only [loop, hb, h]
theorem fFor_nxt {fi : FI} {t : Tg} {fb : FS} {env : En} {μ μ1 : Mu} {ds : List D} {r : SRes} (h : fi env μ = .ok ds μ1) (hl : loop t fb ds env μ1 = r) : fFor fi t fb env μ = r := by
  unfold fFor
  rw [h]
  exact hl
theorem runOf_ret {n : Nat} {b : FS} {ds : List D} {μ μ' : Mu} {v : EV} (env : En) (he : envOf n ds = env) (h : b env μ = .ret v μ') : runOf n b ds μ = .ok v μ' := by
  unfold runOf
  rw [he, h]
theorem mulOk_r {i j : Int} (h1 : 0 ≤ j) (h2 : j ≤ 1000000000000000) : mulOk i j = true := by
  have e : (2 : Int) ^ 64 = 18446744073709551616 := by decide
  simp only [mulOk, Bool.or_eq_true, Bool.and_eq_true, decide_eq_true_eq, e]
  right; omega
theorem mulOk_l {i j : Int} (h1 : 0 ≤ i) (h2 : i ≤ 1000000000000000) : mulOk i j = true := by
  have e : (2 : Int) ^ 64 = 18446744073709551616 := by decide
  simp only [mulOk, Bool.or_eq_true, Bool.and_eq_true, decide_eq_true_eq, e]
  left; omega
theorem ix0 (a b c : Int) (env : En) (x : RV) (hx : x = .val (.loc 0)) : gIx env x (.val (.int 0)) [boxD a b c] = .ok (.val (.int a)) [boxD a b c] := by
  subst hx; simp [gIx, sq, SqD.items, boxD, L2.atI, L2.ixN]
theorem ix1 (a b c : Int) (env : En) : gIx env (.val (.loc 0)) (.val (.int 1)) [boxD a b c] = .ok (.val (.int b)) [boxD a b c] := by
  simp [gIx, sq, SqD.items, boxD, L2.atI, L2.ixN]
theorem ix2 (a b c : Int) (env : En) : gIx env (.val (.loc 0)) (.val (.int 2)) [boxD a b c] = .ok (.val (.int c)) [boxD a b c] := by
  simp [gIx, sq, SqD.items, boxD, L2.atI, L2.ixN]
theorem fMulE {fa fb : FE} {env : En} {μ : Mu} {x y : Int} (h1 : fa env μ = .ok (.val (.int x)) μ) (h2 : fb env μ = .ok (.val (.int y)) μ) (h : mulOk x y = true) : fB gMul fa fb env μ = .ok (.val (.int (x * y))) μ := by
  simp only [fB, h1, h2, Res.bind, gMul, gI, h, if_true]
theorem fAddE {fa fb : FE} {env : En} {μ : Mu} {x y : Int} (h1 : fa env μ = .ok (.val (.int x)) μ) (h2 : fb env μ = .ok (.val (.int y)) μ) : fB gAdd fa fb env μ = .ok (.val (.int (x + y))) μ := by
  simp only [fB, h1, h2, Res.bind, gAdd]
theorem fModE {fa fb : FE} {env : En} {μ : Mu} {x y : Int} (h1 : fa env μ = .ok (.val (.int x)) μ) (h2 : fb env μ = .ok (.val (.int y)) μ) (h : 0 < y) : fB gMod fa fb env μ = .ok (.val (.int (x % y))) μ := by
  simp only [fB, h1, h2, Res.bind, gMod, gI, h, decide_true, if_true]
theorem fDivE {fa fb : FE} {env : En} {μ : Mu} {x y : Int} (h1 : fa env μ = .ok (.val (.int x)) μ) (h2 : fb env μ = .ok (.val (.int y)) μ) (h : 0 < y) (h' : y < 1073741824) : fB gDiv fa fb env μ = .ok (.val (.int (x / y))) μ := by
  simp only [fB, h1, h2, Res.bind, gDiv, gI, divOk, h, h', decide_true, Bool.and_self, if_true]
theorem fIntE {fa : FE} {env : En} {μ : Mu} {x : Int} (h1 : fa env μ = .ok (.val (.int x)) μ) : fCall gInt (fConsr fa fNilr) env μ = .ok (.val (.int x)) μ := by
  simp only [fCall, fConsr, fNilr, h1, Res.bind, gInt]
theorem fGtT {fa fb : FE} {env : En} {μ : Mu} {x y : Int} (h1 : fa env μ = .ok (.val (.int x)) μ) (h2 : fb env μ = .ok (.val (.int y)) μ) : fTB (fB gGt fa fb) env μ = .ok (decide (y < x)) μ := by
  simp only [fTB, fB, h1, h2, Res.bind, gGt, gIB]
theorem fGeE {fa fb : FE} {env : En} {μ : Mu} {x y : Int} (h1 : fa env μ = .ok (.val (.int x)) μ) (h2 : fb env μ = .ok (.val (.int y)) μ) : fB gGe fa fb env μ = .ok (.val (.bl (decide (y ≤ x)))) μ := by
  simp only [fB, h1, h2, Res.bind, gGe, gIB]
theorem fIntB {fa : FE} {env : En} {μ : Mu} {b : Bool} (h1 : fa env μ = .ok (.val (.bl b)) μ) : fCall gInt (fConsr fa fNilr) env μ = .ok (.val (.int (if b then 1 else 0))) μ := by
  cases b <;> simp [fCall, fConsr, fNilr, h1, Res.bind, gInt]
theorem fSetE {i : Nat} {fa : FE} {env : En} {μ μ1 : Mu} {d : D} (h1 : fa env μ = .ok (.val d) μ1) : fSet i (fMv fa) env μ = .nxt (env.set i (.val d)) μ1 := by
  simp only [fSet, fMv, h1, Res.bind, Res.to]
theorem fRetE {fa : FE} {env : En} {μ μ1 : Mu} {d : D} (h1 : fa env μ = .ok (.val d) μ1) : fRet (fMv fa) env μ = .ret (.val d) μ1 := by
  simp only [fRet, fMv, h1, Res.bind, Res.to]
theorem take_ok (n : Int) (h0 : 0 < n) (h1 : n < 1073741824) (N : Nat) (hN : N ≤ 1000000000000) (μ : Mu) (h : Bx N μ) : ∃ (r : Nat) (μ' : Mu), runOf 6 bTake [.loc 0, .int n] μ = .ok (.val (.int (r : Int))) μ' ∧ (r : Int) < n ∧ Bx (N+1) μ' := by
  obtain ⟨a, b, c, rfl, ha, hc, hc2⟩ := h
  have v0 : ∀ (e2 e3 e4 e5 : EV) (μ : Mu), fVar 0 [.val (.loc 0), .val (.int n), e2, e3, e4, e5] μ = .ok (.val (.loc 0)) μ := fun _ _ _ _ _ => rfl
  have v1 : ∀ (e2 e3 e4 e5 : EV) (μ : Mu), fVar 1 [.val (.loc 0), .val (.int n), e2, e3, e4, e5] μ = .ok (.val (.int n)) μ := fun _ _ _ _ _ => rfl
  have x0 : ∀ (e2 e3 e4 e5 : EV) (a b c : Int), fB gIx (fVar 0) (fC (.int 0)) [.val (.loc 0), .val (.int n), e2, e3, e4, e5] [boxD a b c] = .ok (.val (.int a)) [boxD a b c] := fun _ _ _ _ a b c => by
    simp only [fB, v0, fC, Res.bind]; exact ix0 a b c _ _ rfl
  have x1 : ∀ (e2 e3 e4 e5 : EV) (a b c : Int), fB gIx (fVar 0) (fC (.int 1)) [.val (.loc 0), .val (.int n), e2, e3, e4, e5] [boxD a b c] = .ok (.val (.int b)) [boxD a b c] := fun _ _ _ _ a b c => by
    simp only [fB, v0, fC, Res.bind]; exact ix1 a b c _
  have x2 : ∀ (e2 e3 e4 e5 : EV) (a b c : Int), fB gIx (fVar 0) (fC (.int 2)) [.val (.loc 0), .val (.int n), e2, e3, e4, e5] [boxD a b c] = .ok (.val (.int c)) [boxD a b c] := fun _ _ _ _ a b c => by
    simp only [fB, v0, fC, Res.bind]; exact ix2 a b c _
  have cC : ∀ (i : Int) (env : En) (μ : Mu), fC (.int i) env μ = .ok (.val (.int i)) μ := fun _ _ _ => rfl
  by_cases hp : 0 < a
  · have E1 : fSet 2 (fMv (fB gMod (fCall gInt (fConsr (fB gIx (fVar 0) (fC (.int 0))) fNilr)) (fVar 1))) [.val (.loc 0), .val (.int n), .un, .un, .un, .un] [boxD a b c] = .nxt [.val (.loc 0), .val (.int n), .val (.int (a % n)), .un, .un, .un] [boxD a b c] :=
      fSetE (fModE (fIntE (x0 _ _ _ _ a b c)) (v1 _ _ _ _ _) h0)
    have E2 : fSetIx 0 (fB gDiv (fB gIx (fVar 0) (fC (.int 0))) (fVar 1)) (fC (.int 0)) [.val (.loc 0), .val (.int n), .val (.int (a % n)), .un, .un, .un] [boxD a b c] = .nxt [.val (.loc 0), .val (.int n), .val (.int (a % n)), .un, .un, .un] [boxD (a / n) b c] := by
      have q := fDivE (x0 (.val (.int (a % n))) .un .un .un a b c) (v1 _ _ _ _ _) h0 h1
      simp only [fSetIx, q, Res.to, fC]
      simp [getL, putL, boxD, L2.ixN]
    have E3 : fRet (fMv (fVar 2)) [.val (.loc 0), .val (.int n), .val (.int (a % n)), .un, .un, .un] [boxD (a / n) b c] = .ret (.val (.int (a % n))) [boxD (a / n) b c] := rfl
    have T : fIfS (fTB (fB gGt (fB gIx (fVar 0) (fC (.int 0))) (fC (.int 0)))) (fSeq (fSet 2 (fMv (fB gMod (fCall gInt (fConsr (fB gIx (fVar 0) (fC (.int 0))) fNilr)) (fVar 1)))) (fSeq (fSetIx 0 (fB gDiv (fB gIx (fVar 0) (fC (.int 0))) (fVar 1)) (fC (.int 0))) (fRet (fMv (fVar 2))))) fNext [.val (.loc 0), .val (.int n), .un, .un, .un, .un] [boxD a b c] = .ret (.val (.int (a % n))) [boxD (a / n) b c] := by
      have t : fTB (fB gGt (fB gIx (fVar 0) (fC (.int 0))) (fC (.int 0))) [.val (.loc 0), .val (.int n), .un, .un, .un, .un] [boxD a b c] = .ok true [boxD a b c] := by
        rw [fGtT (x0 .un .un .un .un a b c) (cC 0 _ _), decide_eq_true hp]
      unfold fIfS
      rw [t]
      simp only [Res.to, if_true]
      rw [fSeq_nxt E1, fSeq_nxt E2, E3]
    refine ⟨(a % n).toNat, [boxD (a / n) b c], ?_, ?_, ⟨a / n, b, c, rfl, Int.ediv_nonneg ha (by omega), hc, by omega⟩⟩
    · rw [Int.toNat_of_nonneg (Int.emod_nonneg _ (by omega))]
      unfold runOf
      show (match bTake [.val (.loc 0), .val (.int n), .un, .un, .un, .un] [boxD a b c] with | .ret d μ => Res.ok d μ | .nxt _ μ => .ok (.val .non) μ | .exc e _ μ => .exc e μ | _ => .bad) = _
      unfold bTake
      rw [fSeq_ret T]
    · rw [Int.toNat_of_nonneg (Int.emod_nonneg _ (by omega))]
      exact Int.emod_lt_of_pos _ h0
  · have T : fIfS (fTB (fB gGt (fB gIx (fVar 0) (fC (.int 0))) (fC (.int 0)))) (fSeq (fSet 2 (fMv (fB gMod (fCall gInt (fConsr (fB gIx (fVar 0) (fC (.int 0))) fNilr)) (fVar 1)))) (fSeq (fSetIx 0 (fB gDiv (fB gIx (fVar 0) (fC (.int 0))) (fVar 1)) (fC (.int 0))) (fRet (fMv (fVar 2))))) fNext [.val (.loc 0), .val (.int n), .un, .un, .un, .un] [boxD a b c] = .nxt [.val (.loc 0), .val (.int n), .un, .un, .un, .un] [boxD a b c] := by
      have t : fTB (fB gGt (fB gIx (fVar 0) (fC (.int 0))) (fC (.int 0))) [.val (.loc 0), .val (.int n), .un, .un, .un, .un] [boxD a b c] = .ok false [boxD a b c] := by
        rw [fGtT (x0 .un .un .un .un a b c) (cC 0 _ _), decide_eq_false hp]
      unfold fIfS
      rw [t]
      rfl
    have E1 : fSetIx 0 (fB gAdd (fB gIx (fVar 0) (fC (.int 2))) (fC (.int 1))) (fC (.int 2)) [.val (.loc 0), .val (.int n), .un, .un, .un, .un] [boxD a b c] = .nxt [.val (.loc 0), .val (.int n), .un, .un, .un, .un] [boxD a b (c + 1)] := by
      have q := fAddE (x2 .un .un .un .un a b c) (cC 1 _ _)
      simp only [fSetIx, q, Res.to, fC]
      simp [getL, putL, boxD, L2.ixN]
    generalize hc' : c + 1 = d at E1
    have hd : 0 ≤ d ∧ d ≤ 1000000000001 := by omega
    have E2 := fSetE (i := 3) (fModE (fIntE (fMulE (fAddE (x1 .un .un .un .un a b d) (fMulE (cC 48271 _ _) (x2 .un .un .un .un a b d) (mulOk_l (by omega) (by omega)))) (fAddE (cC 39373 _ _) (x2 .un .un .un .un a b d)) (mulOk_r (by omega) (by omega)))) (cC 2147483647 _ _) (by omega))
    generalize ho : (b + 48271 * d) * (39373 + d) % 2147483647 = o at E2
    simp only [List.set_cons_succ, List.set_cons_zero] at E2
    have ho2 : 0 ≤ o ∧ o < 2147483647 := by rw [← ho]; omega
    have o3 : ∀ (e2 e4 e5 : EV) (μ : Mu), fVar 3 [.val (.loc 0), .val (.int n), e2, .val (.int o), e4, e5] μ = .ok (.val (.int o)) μ := fun _ _ _ _ => rfl
    have E3 := fSetE (i := 4) (fAddE (fModE (fIntE (o3 .un .un .un [boxD a b d])) (cC 40009 _ _) (by omega)) (cC 7 _ _))
    generalize hw : o % 40009 + 7 = w at E3
    simp only [List.set_cons_succ, List.set_cons_zero] at E3
    have hw2 : 0 ≤ w ∧ w ≤ 50000 := by rw [← hw]; omega
    have o4 : ∀ (e2 e5 : EV) (μ : Mu), fVar 4 [.val (.loc 0), .val (.int n), e2, .val (.int o), .val (.int w), e5] μ = .ok (.val (.int w)) μ := fun _ _ _ => rfl
    have E4 := fSetE (i := 5) (fModE (fIntE (fMulE (fAddE (fAddE (o3 .un (.val (.int w)) .un [boxD a b d]) (x2 .un (.val (.int o)) (.val (.int w)) .un a b d)) (fDivE (x1 .un (.val (.int o)) (.val (.int w)) .un a b d) (cC 1000003 _ _) (by omega) (by omega))) (o4 .un .un [boxD a b d]) (mulOk_r (by omega) (by omega)))) (cC 2147483629 _ _) (by omega))
    generalize ht : (o + d + b / 1000003) * w % 2147483629 = t at E4
    simp only [List.set_cons_succ, List.set_cons_zero] at E4
    have ht2 : 0 ≤ t ∧ t < 2147483629 := by rw [← ht]; omega
    have o5 : ∀ (e2 e4 : EV) (μ : Mu), fVar 5 [.val (.loc 0), .val (.int n), e2, .val (.int o), e4, .val (.int t)] μ = .ok (.val (.int t)) μ := fun _ _ _ => rfl
    have E5 := fRetE (fModE (fIntE (fDivE (fModE (fIntE (fAddE (fMulE (o5 .un (.val (.int w)) [boxD a b d]) (cC 48271 _ _) (mulOk_r (by omega) (by omega))) (o3 .un (.val (.int w)) (.val (.int t)) [boxD a b d]))) (cC 2147483587 _ _) (by omega)) (cC 64 _ _) (by omega) (by omega))) (v1 .un (.val (.int o)) (.val (.int w)) (.val (.int t)) [boxD a b d]) h0)
    generalize hr : (t * 48271 + o) % 2147483587 / 64 % n = r at E5
    have hr0 : 0 ≤ r := by rw [← hr]; exact Int.emod_nonneg _ (by omega)
    have hr1 : r < n := by rw [← hr]; exact Int.emod_lt_of_pos _ h0
    refine ⟨r.toNat, [boxD a b d], ?_, by omega, ⟨a, b, d, rfl, ha, by omega, by omega⟩⟩
    rw [Int.toNat_of_nonneg hr0]
    unfold runOf
    show (match bTake [.val (.loc 0), .val (.int n), .un, .un, .un, .un] [boxD a b c] with | .ret d μ => Res.ok d μ | .nxt _ μ => .ok (.val .non) μ | .exc e _ μ => .exc e μ | _ => .bad) = _
    unfold bTake
    rw [fSeq_nxt T, fSeq_nxt E1, fSeq_nxt E2, fSeq_nxt E3, fSeq_nxt E4, E5]
end Gn
set_option Elab.async false
set_option linter.all false
set_option maxRecDepth 100000
set_option maxHeartbeats 4000000
namespace Gn
open PySem Q
def TakeS (rt : RunF) : Prop := ∀ (n : Int) (N : Nat) (μ : Mu), 0 < n → n < 1073741824 → N ≤ 1000000000000 → Bx N μ → ∃ (r : Nat) (μ' : Mu), rt [.loc 0, .int n] μ = .ok (.val (.int (r : Int))) μ' ∧ (r : Int) < n ∧ Bx (N+1) μ'
theorem takeS : TakeS (runOf 6 bTake) := fun n N μ h0 h1 hN h => take_ok n h0 h1 N hN μ h
def bOf (rt : RunF) : FS := (fRet (fMv (fB gIx (fVar 1) (fFn 2 rt (fCons (fVar 0) (fCons (fCall gLen (fConsr (fVar 1) fNilr)) fNil))))))
theorem atI_nat (ds : List D) (i : Nat) : L2.atI ds (i : Int) = ds[i]? := by
  unfold L2.atI L2.ixN
  rw [if_pos (by omega)]
  by_cases h : (i : Int) < (ds.length : Int)
  · rw [if_pos h, Option.bind_some, Int.toNat_natCast]
  · rw [if_neg h, List.getElem?_eq_none (by omega)]
    rfl
theorem of_ok {rt : RunF} (ht : TakeS rt) (ds : List D) (h0 : 0 < ds.length) (hl : ds.length ≤ 1000000) (N : Nat) (hN : N ≤ 1000000000000) (μ : Mu) (h : Bx N μ) : ∃ (d : D) (μ' : Mu), d ∈ ds ∧ runOf 2 (bOf rt) [.loc 0, .lst ds] μ = .ok (.val d) μ' ∧ Bx (N+1) μ' := by
  obtain ⟨r, μ', e, hr, hb⟩ := ht (ds.length : Int) N μ (by omega) (by omega) hN h
  have lr : r < ds.length := by omega
  refine ⟨ds[r], μ', List.getElem_mem _, ?_, hb⟩
  have q := atI_nat ds r
  rw [List.getElem?_eq_getElem lr] at q
  have z : ds.length ≤ LIM := by unfold LIM; omega
  simp [runOf, envOf, bOf, fRet, fMv, fB, fVar, fFn, fCons, fNil, fCall, fConsr, fNilr, gLen, sq, SqD.items, Res.bind, Res.to, e, gIx, q, z]
def bBox (q : Int) : FS := (fSeq (fSet 2 (fMv (fIf (fTB (fB gLt (fVar 1) (fCall gLen (fConsr (fVar 0) fNilr)))) (fB gIx (fVar 0) (fVar 1)) (fC (.int 0)))))
    (fRet (fMo (fLst (fCons (fB gMul (fCall gAbs (fConsr (fVar 2) fNilr)) (fCall gInt (fConsr (fB gGe (fCall gAbs (fConsr (fVar 2) fNilr)) (fB gPow (fC (.int 10)) (fC (.int 18)))) fNilr))) (fCons (fB gAdd (fB gAdd (fB gMod (fCall gInt (fConsr (fVar 2) fNilr)) (fC (.int 2305843009213693951))) (fB gMul (fC (.int 39373)) (fVar 1))) (fC (.int q))) (fCons (fC (.int 0)) fNil)))))))
theorem box_ok (q : Int) (cs : List Int) (k : Nat) (hk : k < cs.length) (hl : cs.length ≤ 1000) (μ : Mu) : ∃ ds, runOf 3 (bBox q) [.lst (cs.map .int), .int (k : Int)] μ = .ok (.own ds) μ ∧ Bx 0 [ds] := by
  have ek : (cs.map D.int)[k]? = some (.int cs[k]) := by rw [List.getElem?_map, List.getElem?_eq_getElem hk]; rfl
  have x := atI_nat (cs.map D.int) k
  rw [ek] at x
  generalize cs[k] = c at x
  have z : cs.length ≤ LIM := by unfold LIM; omega
  have E1 : fSet 2 (fMv (fIf (fTB (fB gLt (fVar 1) (fCall gLen (fConsr (fVar 0) fNilr)))) (fB gIx (fVar 0) (fVar 1)) (fC (.int 0)))) [.val (.lst (cs.map .int)), .val (.int (k : Int)), .un] μ = .nxt [.val (.lst (cs.map .int)), .val (.int (k : Int)), .val (.int c)] μ := by
    simp [fSet, fMv, fIf, fTB, fB, fVar, fCall, fConsr, fNilr, gLen, gLt, gIB, sq, SqD.items, Res.bind, Res.to, gIx, x, hk, z]
  have v1 : ∀ (env : En) (μ : Mu), fC (.int 0) env μ = .ok (.val (.int 0)) μ := fun _ _ => rfl
  have ab : fCall gAbs (fConsr (fVar 2) fNilr) [.val (.lst (cs.map .int)), .val (.int (k : Int)), .val (.int c)] μ = .ok (.val (.int (if c < 0 then -c else c))) μ := by
    simp [fCall, fConsr, fNilr, fVar, gAbs, gI1, Res.bind]
  have pw : fB gPow (fC (.int 10)) (fC (.int 18)) [.val (.lst (cs.map .int)), .val (.int (k : Int)), .val (.int c)] μ = .ok (.val (.int (1000000000000000000))) μ := rfl
  obtain ⟨t, ht, ge⟩ : ∃ t : Int, (t = 0 ∨ t = 1) ∧ fCall gInt (fConsr (fB gGe (fCall gAbs (fConsr (fVar 2) fNilr)) (fB gPow (fC (.int 10)) (fC (.int 18)))) fNilr) [.val (.lst (cs.map .int)), .val (.int (k : Int)), .val (.int c)] μ = .ok (.val (.int t)) μ := by
    refine ⟨_, ?_, fIntB (fGeE ab pw)⟩
    generalize decide ((1000000000000000000 : Int) ≤ (if c < 0 then -c else c)) = b
    cases b
    · exact .inl rfl
    · exact .inr rfl
  have m1 := fMulE ab ge (mulOk_r (by omega) (by omega))
  have v2 : fVar 2 [.val (.lst (cs.map .int)), .val (.int (k : Int)), .val (.int c)] μ = .ok (.val (.int c)) μ := rfl
  have vk : fVar 1 [.val (.lst (cs.map .int)), .val (.int (k : Int)), .val (.int c)] μ = .ok (.val (.int (k : Int))) μ := rfl
  have cC : ∀ (i : Int) (env : En) (μ : Mu), fC (.int i) env μ = .ok (.val (.int i)) μ := fun _ _ _ => rfl
  have m2 := fAddE (fAddE (fModE (fIntE v2) (cC 2305843009213693951 _ _) (by omega)) (fMulE (cC 39373 _ _) vk (mulOk_r (by omega) (by omega)))) (cC q _ _)
  refine ⟨boxD ((if c < 0 then -c else c) * t) (c % 2305843009213693951 + 39373 * (k : Int) + q) 0, ?_, ⟨_, _, _, rfl, ?_, by omega, by omega⟩⟩
  · unfold runOf
    show (match bBox q [.val (.lst (cs.map .int)), .val (.int (k : Int)), .un] μ with | .ret d μ => Res.ok d μ | .nxt _ μ => .ok (.val .non) μ | .exc e _ μ => .exc e μ | _ => .bad) = _
    unfold bBox
    rw [fSeq_nxt E1]
    simp only [fRet, fMo, fLst, fCons, fNil, m1, m2, cC, Res.bind, Res.to]
    simp [LIM, boxD]
  · have : 0 ≤ (if c < 0 then -c else c) := by split <;> omega
    rcases ht with rfl | rfl
    · simp
    · simpa using this
end Gn
set_option Elab.async false
set_option linter.all false
set_option maxRecDepth 100000
set_option maxHeartbeats 4000000
namespace Gn
open PySem Q
def bCells : FS := (fSeq (fSet 2 (fMo (fOrN (fCall gList (fConsr (fSl gSl (fVar 0) fNoO (fSomeO (fVar 1))) fNilr)) (fLst (fCons (fC (.int 0)) fNil)))))
    (fSeq (fFor (fEn (fSl gSl (fVar 0) (fSomeO (fVar 1)) (fSomeO (fC (.int 63))))) (.tp [(.nm 3), (.nm 4)]) (fSeq (fSet 5 (fMv (fB gMod (fCall gInt (fConsr (fVar 3) fNilr)) (fVar 1))))
    (fSetIx 2 (fB gAdd (fB gIx (fVar 2) (fVar 5)) (fB gMul (fVar 4) (fB gAdd (fVar 3) (fC (.int 2))))) (fVar 5))))
    (fRetO 2)))
theorem cut_to {α : Type} (xs : List α) (n : Nat) : cut xs none (some (n : Int)) = xs.take n := by
  unfold cut
  rw [HT.sIx_nat, HT.sIx_none, Nat.sub_zero, List.drop_zero, List.take_eq_take_iff]
  omega
theorem cut_from {α : Type} (xs : List α) (n : Nat) : cut xs (some (n : Int)) none = xs.drop n := by
  unfold cut
  rw [HT.sIx_nat, HT.sIx_none]
  by_cases h : n ≤ xs.length
  · rw [Nat.min_eq_left h, List.take_of_length_le (by rw [List.length_drop]; omega)]
  · rw [Nat.min_eq_right (by omega), Nat.sub_self, List.take_zero, List.drop_of_length_le (by omega)]
theorem cut_mid {α : Type} (xs : List α) (n m : Nat) (h : xs.length ≤ m) : cut xs (some (n : Int)) (some (m : Int)) = xs.drop n := by
  unfold cut
  rw [HT.sIx_nat, HT.sIx_nat]
  by_cases h' : n ≤ xs.length
  · rw [Nat.min_eq_left h', List.take_of_length_le (by rw [List.length_drop]; omega)]
  · rw [Nat.min_eq_right (Nat.le_of_not_le h'), List.drop_of_length_le (Nat.le_refl _), List.drop_of_length_le (by omega), List.take_nil]
theorem cells_loop (m : Nat) (hm : 0 < m) (e0 : EV) (μ : Mu) : ∀ (ns : List Int) (i : Nat) (cs : List Int) (e3 e4 e5 : EV), i + ns.length ≤ 1000 → cs.length = m →
    ∃ cs' : List Int, ∃ a3 a4 a5, cs'.length = m ∧ loop (.tp [(.nm 3), (.nm 4)]) (fSeq (fSet 5 (fMv (fB gMod (fCall gInt (fConsr (fVar 3) fNilr)) (fVar 1))))
    (fSetIx 2 (fB gAdd (fB gIx (fVar 2) (fVar 5)) (fB gMul (fVar 4) (fB gAdd (fVar 3) (fC (.int 2))))) (fVar 5))) (enumD (i : Int) (ns.map .int)) [e0, .val (.int (m : Int)), .own (cs.map .int), e3, e4, e5] μ = .nxt [e0, .val (.int (m : Int)), .own (cs'.map .int), a3, a4, a5] μ
  | [], i, cs, e3, e4, e5, _, hc => ⟨cs, e3, e4, e5, hc, by simp [enumD, loop]⟩
  | z :: ns, i, cs, e3, e4, e5, hi, hc => by
    simp only [List.length_cons] at hi
    have lt : i % m < cs.length := by rw [hc]; exact Nat.mod_lt _ hm
    obtain ⟨cs', a3, a4, a5, q1, q2⟩ := cells_loop m hm e0 μ ns (i + 1) (cs.set (i % m) (cs[i % m] + z * ((i : Int) + 2))) (.val (.int (i : Int))) (.val (.int z)) (.val (.int ((i % m : Nat) : Int))) (by omega) (by rw [List.length_set]; exact hc)
    refine ⟨cs', a3, a4, a5, q1, ?_⟩
    have en : ((i + 1 : Nat) : Int) = (i : Int) + 1 := by omega
    rw [en] at q2
    have E1 : fSet 5 (fMv (fB gMod (fCall gInt (fConsr (fVar 3) fNilr)) (fVar 1))) [e0, .val (.int (m : Int)), .own (cs.map .int), .val (.int (i : Int)), .val (.int z), e5] μ = .nxt [e0, .val (.int (m : Int)), .own (cs.map .int), .val (.int (i : Int)), .val (.int z), .val (.int ((i % m : Nat) : Int))] μ := by
      have q := fModE (fIntE (fa := fVar 3) (env := [e0, .val (.int (m : Int)), .own (cs.map .int), .val (.int (i : Int)), .val (.int z), e5]) (μ := μ) (x := (i : Int)) rfl) (fb := fVar 1) (y := (m : Int)) rfl (by omega)
      have q := fSetE (i := 5) q
      rw [← Int.natCast_emod] at q
      exact q
    have x : L2.atI (cs.map D.int) ((i % m : Nat) : Int) = some (.int cs[i % m]) := by
      rw [atI_nat, List.getElem?_map, List.getElem?_eq_getElem lt]; rfl
    have x2 : L2.ixN cs.length ((i % m : Nat) : Int) = some (i % m) := by
      unfold L2.ixN
      rw [if_pos (by omega), if_pos (by omega), Int.toNat_natCast]
    have E2 : fSetIx 2 (fB gAdd (fB gIx (fVar 2) (fVar 5)) (fB gMul (fVar 4) (fB gAdd (fVar 3) (fC (.int 2))))) (fVar 5) [e0, .val (.int (m : Int)), .own (cs.map .int), .val (.int (i : Int)), .val (.int z), .val (.int ((i % m : Nat) : Int))] μ = .nxt [e0, .val (.int (m : Int)), .own ((cs.set (i % m) (cs[i % m] + z * ((i : Int) + 2))).map .int), .val (.int (i : Int)), .val (.int z), .val (.int ((i % m : Nat) : Int))] μ := by
      have g1 : fB gIx (fVar 2) (fVar 5) [e0, .val (.int (m : Int)), .own (cs.map .int), .val (.int (i : Int)), .val (.int z), .val (.int ((i % m : Nat) : Int))] μ = .ok (.val (.int cs[i % m])) μ := by
        simp only [fB, fVar, Res.bind, List.getElem?_cons_succ, List.getElem?_cons_zero, gIx, sq, SqD.items, x]
      have g2 := fMulE (fa := fVar 4) (env := [e0, .val (.int (m : Int)), .own (cs.map .int), .val (.int (i : Int)), .val (.int z), .val (.int ((i % m : Nat) : Int))]) (μ := μ) (x := z) rfl (fAddE (fa := fVar 3) (x := (i : Int)) (fb := fC (.int 2)) (y := 2) rfl rfl) (mulOk_r (by omega) (by omega))
      have g3 := fAddE g1 g2
      simp only [fSetIx, g3, Res.to, fVar, getL, putL, List.getElem?_cons_succ, List.getElem?_cons_zero, List.length_map, x2, List.set_cons_succ, List.set_cons_zero, List.map_set]
    simp only [List.map_cons, enumD]
    rw [loop_nxt (env1 := [e0, .val (.int (m : Int)), .own (cs.map .int), .val (.int (i : Int)), .val (.int z), e5]) rfl ((fSeq_nxt E1).trans E2)]
    exact q2
theorem cells_ok (m : Nat) (hm : 0 < m) (hm2 : m ≤ 60) (ns : List Int) (hl : ns.length ≤ 63) (μ : Mu) : ∃ cs : List Int, runOf 6 bCells [.frz (ns.map .int), .int (m : Int)] μ = .ok (.own (cs.map .int)) μ ∧ 1 ≤ cs.length ∧ cs.length ≤ m := by
  have c1 : cut (ns.map D.int) none (some (m : Int)) = (ns.take m).map .int := by rw [cut_to, List.map_take]
  have c2 : cut (ns.map D.int) (some (m : Int)) (some 63) = (ns.drop m).map .int := by
    have := cut_mid (ns.map D.int) m 63 (by rw [List.length_map]; exact hl)
    rw [← List.map_drop] at this
    exact this
  have z : (ns.take m).length ≤ LIM := by rw [List.length_take]; unfold LIM; omega
  let c0 : List Int := if (ns.take m).isEmpty then [0] else ns.take m
  have E1 : fSet 2 (fMo (fOrN (fCall gList (fConsr (fSl gSl (fVar 0) fNoO (fSomeO (fVar 1))) fNilr)) (fLst (fCons (fC (.int 0)) fNil)))) [.val (.frz (ns.map .int)), .val (.int (m : Int)), .un, .un, .un, .un] μ = .nxt [.val (.frz (ns.map .int)), .val (.int (m : Int)), .own (c0.map .int), .un, .un, .un] μ := by
    have a : fCall gList (fConsr (fSl gSl (fVar 0) fNoO (fSomeO (fVar 1))) fNilr) [.val (.frz (ns.map .int)), .val (.int (m : Int)), .un, .un, .un, .un] μ = .ok (.val (.lst ((ns.take m).map .int))) μ := by
      simp [fCall, fConsr, fNilr, fSl, fVar, fNoO, fSomeO, gSl, sq, SqD.items, Res.bind, c1, gList]
    simp only [fSet, fMo, fOrN, a, Res.bind]
    cases h : ns.take m with
    | nil => simp [c0, h, fLst, fCons, fC, fNil, Res.bind, Res.to, LIM]
    | cons x xs => simp [c0, h, Res.bind, Res.to]
  have E2 : fEn (fSl gSl (fVar 0) (fSomeO (fVar 1)) (fSomeO (fC (.int 63)))) [.val (.frz (ns.map .int)), .val (.int (m : Int)), .own (c0.map .int), .un, .un, .un] μ = .ok (enumD 0 ((ns.drop m).map .int)) μ := by
    simp [fEn, fSl, fVar, fC, fSomeO, gSl, sq, Res.bind, c2, srcD]
  have fin : ∀ (cs : List D) (a3 a4 a5 : EV), loop (.tp [(.nm 3), (.nm 4)]) (fSeq (fSet 5 (fMv (fB gMod (fCall gInt (fConsr (fVar 3) fNilr)) (fVar 1)))) (fSetIx 2 (fB gAdd (fB gIx (fVar 2) (fVar 5)) (fB gMul (fVar 4) (fB gAdd (fVar 3) (fC (.int 2))))) (fVar 5))) (enumD 0 ((ns.drop m).map .int)) [.val (.frz (ns.map .int)), .val (.int (m : Int)), .own (c0.map .int), .un, .un, .un] μ = .nxt [.val (.frz (ns.map .int)), .val (.int (m : Int)), .own cs, a3, a4, a5] μ → runOf 6 bCells [.frz (ns.map .int), .int (m : Int)] μ = .ok (.own cs) μ := fun cs a3 a4 a5 hr => by
    refine runOf_ret [.val (.frz (ns.map .int)), .val (.int (m : Int)), .un, .un, .un, .un] rfl ?_
    unfold bCells
    rw [fSeq_nxt E1, fSeq_nxt (fFor_nxt E2 hr)]
    rfl
  by_cases hn : ns.length ≤ m
  · have d0 : ns.drop m = [] := List.drop_of_length_le hn
    have L : loop (.tp [(.nm 3), (.nm 4)]) (fSeq (fSet 5 (fMv (fB gMod (fCall gInt (fConsr (fVar 3) fNilr)) (fVar 1)))) (fSetIx 2 (fB gAdd (fB gIx (fVar 2) (fVar 5)) (fB gMul (fVar 4) (fB gAdd (fVar 3) (fC (.int 2))))) (fVar 5))) (enumD 0 ((ns.drop m).map .int)) [.val (.frz (ns.map .int)), .val (.int (m : Int)), .own (c0.map .int), .un, .un, .un] μ = .nxt [.val (.frz (ns.map .int)), .val (.int (m : Int)), .own (c0.map .int), .un, .un, .un] μ := by
      rw [d0]; rfl
    refine ⟨c0, ?_, ?_, ?_⟩
    · exact fin _ _ _ _ L
    · simp only [c0]; cases h : ns.take m <;> simp
    · simp only [c0]
      cases h : ns.take m with
      | nil => simp; omega
      | cons x xs =>
        have := List.length_take_le m ns
        rw [h] at this
        simpa using this
  · have lc : c0.length = m := by
      simp only [c0]
      have : (ns.take m).length = m := by rw [List.length_take]; omega
      cases h : ns.take m with
      | nil => rw [h] at this; simp at this; omega
      | cons x xs => rw [h] at this; simpa using this
    obtain ⟨cs', a3, a4, a5, q1, L⟩ := cells_loop m hm (.val (.frz (ns.map .int))) μ (ns.drop m) 0 c0 .un .un .un (by rw [List.length_drop]; omega) lc
    refine ⟨cs', ?_, by omega, by omega⟩
    exact fin _ _ _ _ L
end Gn
set_option Elab.async false
set_option linter.all false
set_option maxRecDepth 100000
set_option maxHeartbeats 4000000
namespace Gn
open PySem Q
theorem fLc_eq {fi : FI} {t : Tg} {ft : FT} {fe : FE} {vs : List Nat} {env : En} {μ μ1 μ2 : Mu} {ds l : List D} (h1 : fi env μ = .ok ds μ1) (h2 : ds.length ≤ LIM) (h3 : lcLoop t ft fe (wipeE env vs) ds μ1 [] = .ok l μ2) : fLc fi t ft fe vs env μ = .ok (.val (.lst l)) μ2 := by
  unfold fLc
  rw [h1]
  simp only [Res.bind, if_pos h2, h3]
theorem fRng1_eq {fa : FE} {env : En} {μ μ1 : Mu} {n : Nat} (h : fa env μ = .ok (.val (.int (n : Int))) μ1) (hr : n ≤ 1000000) : fRng1 fa env μ = .ok (rangeD 0 n) μ1 := by
  have hr : rngOk (n : Int) = true := decide_eq_true (by rw [Int.natAbs_natCast]; omega)
  unfold fRng1
  rw [h]
  simp only [Res.bind, hr, if_true, Int.toNat_natCast]
theorem lc_yes {t : Tg} {fe : FE} {env env' : En} {d x : D} {ds acc : List D} {μ μ1 : Mu} (hb : t.bind d env = some env') (h : fe env' μ = .ok (.val x) μ1) : lcLoop t fYes fe env (d :: ds) μ acc = lcLoop t fYes fe env ds μ1 (acc ++ [x]) := by
  simp only [lcLoop, hb, fYes, Res.nx, Res.bind, if_true, h]
end Gn
set_option linter.all false
set_option maxRecDepth 100000
set_option maxHeartbeats 4000000
namespace Kx
open PySem Q
local macro_rules | `(tactic| simp_arith [$as,*] $[$l]?) => `(tactic| simp [runOf, envOf, fSeq, fIfS, fTB, fB, gEq, gNe, gGt, gLt, gLe, gGe, gIB, fVar, fC, gIx, sq, Res.bind, Res.to, L2.atI, L2.ixN, fSet, fMv, fMo, fSetIx, fRet, gMod, gDiv, gI, gAdd, gMul, fCall, fConsr, fNilr, gInt, getL, putL, SqD.items, fOr, fAnd, fOrV, fAndV, fNotV, fNot, fTT, tru, fFn, fCons, fNil, fNext, gLen, rd, fYes, wipeE, Tg.bind, Tg.binds, Res.nx, fZp, srcD, zipD, fSl, gSl, fSomeO, fNoO, fTup, fLst, fLc, List.replicate, D.scal2, D.eq, D.eqs, D.plain, D.plains, D.dep, D.deps, LIM, n1_ne, n1_beq, n1_bne, n1_pos, cut1, srcD_sq, fIf, gTuple, gList, fRaise, gIsN, gNotN, RV.isN, fIsi, isi, subTy, tyGo, tyName, fAny, $as,*] $[$l]?)
def putF : Fm → List Nat → Fm → Fm
  | _, [], x => x
  | .op, _ :: _, x => x
  | .nd s ps, i :: l, x => match ps[i]? with
    | some p => .nd s (ps.take i ++ putF p l x :: ps.drop (i + 1))
    | none => x
theorem ds_app (b : Bool) : ∀ ps qs : List Fm, Fm.ds b (ps ++ qs) = Fm.ds b ps ++ Fm.ds b qs
  | [], _ => rfl
  | p :: ps, qs => by simp [Fm.ds, ds_app b ps qs]
end Kx
set_option linter.all false
set_option maxRecDepth 100000
set_option maxHeartbeats 4000000
namespace Kx
open PySem Q
local macro_rules | `(tactic| simp_arith [$as,*] $[$l]?) => `(tactic| simp [runOf, envOf, fSeq, fIfS, fTB, fB, gEq, gNe, gGt, gLt, gLe, gGe, gIB, fVar, fC, gIx, sq, Res.bind, Res.to, L2.atI, L2.ixN, fSet, fMv, fMo, fSetIx, fRet, gMod, gDiv, gI, gAdd, gMul, fCall, fConsr, fNilr, gInt, getL, putL, SqD.items, fOr, fAnd, fOrV, fAndV, fNotV, fNot, fTT, tru, fFn, fCons, fNil, fNext, gLen, rd, fYes, wipeE, Tg.bind, Tg.binds, Res.nx, fZp, srcD, zipD, fSl, gSl, fSomeO, fNoO, fTup, fLst, fLc, List.replicate, D.scal2, D.eq, D.eqs, D.plain, D.plains, D.dep, D.deps, LIM, n1_ne, n1_beq, n1_bne, n1_pos, cut1, srcD_sq, fIf, gTuple, gList, fRaise, gIsN, gNotN, RV.isN, fIsi, isi, subTy, tyGo, tyName, fAny, $as,*] $[$l]?)
def names : List Str := ["a", "b", "f", "g", "k", "end", "mark", "abcdefgh", "c", "d", "e", "h", "m", "n", "p", "q", "r", "s", "t", "l", "u"]
mutual
/-- names that are used, at most three parts -/
def Fm.fine : Fm → Bool
  | .op => true
  | .nd s ps => decide (s ∈ names) && (decide (ps.length ≤ 3) && Fm.fines ps)
def Fm.fines : List Fm → Bool
  | [] => true
  | p :: ps => Fm.fine p && Fm.fines ps
end
theorem fine_nd {s : Str} {ps : List Fm} (h : (Fm.nd s ps).fine = true) : s ∈ names ∧ ps.length ≤ 3 ∧ Fm.fines ps = true := by
  simpa [Fm.fine] using h
theorem fines_cons {p : Fm} {ps : List Fm} (h : Fm.fines (p :: ps) = true) : p.fine = true ∧ Fm.fines ps = true := by
  simpa [Fm.fines] using h
theorem fines_mem : ∀ {ps : List Fm} {p : Fm}, Fm.fines ps = true → p ∈ ps → p.fine = true
  | q :: ps, p, h, m => by
    rcases List.mem_cons.mp m with e | m
    · rw [e]; exact (fines_cons h).1
    · exact fines_mem (fines_cons h).2 m
theorem fines_of : ∀ {ps : List Fm}, (∀ p ∈ ps, p.fine = true) → Fm.fines ps = true
  | [], _ => rfl
  | p :: ps, h => by
    simp only [Fm.fines, Bool.and_eq_true]
    exact ⟨h p List.mem_cons_self, fines_of fun q hq => h q (List.mem_cons_of_mem _ hq)⟩
theorem dps_of {n : Nat} : ∀ {ps : List Fm}, (∀ p ∈ ps, p.dp ≤ n) → Fm.dps ps ≤ n
  | [], _ => by simp [Fm.dps]
  | p :: ps, h => by
    have h1 := h p List.mem_cons_self
    have h2 : Fm.dps ps ≤ n := dps_of fun q hq => h q (List.mem_cons_of_mem _ hq)
    simp only [Fm.dps]; omega
theorem putF_ok : ∀ (l : List Nat) (f g x : Fm), pt l f = some g → f.fine = true → x.fine = true → (putF f l x).fine = true ∧ (putF f l x).dp ≤ max f.dp (l.length + x.dp)
  | [], f, g, x, _, _, hx => by
    simp only [putF, List.length_nil, Nat.zero_add]
    exact ⟨hx, by omega⟩
  | i :: l, .op, g, x, h, _, _ => by simp [pt] at h
  | i :: l, .nd s ps, g, x, h, hf, hx => by
    simp only [pt] at h
    have hf := fine_nd hf
    cases hp : ps[i]? with
    | none => rw [hp] at h; simp at h
    | some p =>
      rw [hp] at h
      have pm := List.mem_of_getElem? hp
      have ih := putF_ok l p g x h (fines_mem hf.2.2 pm) hx
      have li : i < ps.length := (List.getElem?_eq_some_iff.mp hp).1
      have dq : ∀ q ∈ ps, q.dp ≤ Fm.dps ps := fun q hq => dps_mem hq
      have memq : ∀ q ∈ ps.take i ++ putF p l x :: ps.drop (i + 1), q = putF p l x ∨ q ∈ ps := fun q hq => by
        rcases List.mem_append.mp hq with h | h
        · exact .inr (List.mem_of_mem_take h)
        · rcases List.mem_cons.mp h with h | h
          · exact .inl h
          · exact .inr (List.mem_of_mem_drop h)
      simp only [putF, hp]
      constructor
      · simp only [Fm.fine, Bool.and_eq_true, decide_eq_true_eq]
        refine ⟨hf.1, by simp only [List.length_append, List.length_cons, List.length_take, List.length_drop]; omega, fines_of fun q hq => ?_⟩
        rcases memq q hq with e | h
        · rw [e]; exact ih.1
        · exact fines_mem hf.2.2 h
      · have : Fm.dps (ps.take i ++ putF p l x :: ps.drop (i + 1)) ≤ max (Fm.dps ps) (l.length + x.dp) := dps_of fun q hq => by
          rcases memq q hq with e | h
          · rw [e]
            have := dq p pm
            omega
          · have := dq q h
            omega
        simp only [Fm.dp, List.length_cons]; omega
end Kx
set_option linter.all false
set_option maxRecDepth 100000
set_option maxHeartbeats 4000000
namespace Kx
open PySem Q
local macro_rules | `(tactic| simp_arith [$as,*] $[$l]?) => `(tactic| simp [runOf, envOf, fSeq, fIfS, fTB, fB, gEq, gNe, gGt, gLt, gLe, gGe, gIB, fVar, fC, gIx, sq, Res.bind, Res.to, L2.atI, L2.ixN, fSet, fMv, fMo, fSetIx, fRet, gMod, gDiv, gI, gAdd, gMul, fCall, fConsr, fNilr, gInt, getL, putL, SqD.items, fOr, fAnd, fOrV, fAndV, fNotV, fNot, fTT, tru, fFn, fCons, fNil, fNext, gLen, rd, fYes, wipeE, Tg.bind, Tg.binds, Res.nx, fZp, srcD, zipD, fSl, gSl, fSomeO, fNoO, fTup, fLst, fLc, List.replicate, D.scal2, D.eq, D.eqs, D.plain, D.plains, D.dep, D.deps, LIM, n1_ne, n1_beq, n1_bne, n1_pos, cut1, srcD_sq, fIf, gTuple, gList, fRaise, gIsN, gNotN, RV.isN, fIsi, isi, subTy, tyGo, tyName, fAny, $as,*] $[$l]?)
end Kx
set_option linter.all false
set_option maxRecDepth 100000
set_option maxHeartbeats 4000000
namespace Kx
open PySem Q
theorem take1 (k : Nat) : Gn.TakeS (run (k+1) 12) := Gn.takeS
theorem of1 (k : Nat) (ds : List D) (h0 : 0 < ds.length) (hl : ds.length ≤ 1000000) (N : Nat) (hN : N ≤ 1000000000000) (μ : Mu) (h : Gn.Bx N μ) : ∃ (d : D) (μ' : Mu), d ∈ ds ∧ run (k+2) 14 [.loc 0, .lst ds] μ = .ok (.val d) μ' ∧ Gn.Bx (N+1) μ' := Gn.of_ok (take1 k) ds h0 hl N hN μ h
end Kx
set_option linter.all false
set_option maxRecDepth 100000
set_option maxHeartbeats 4000000
namespace Kx
open PySem Q
end Kx
set_option linter.all false
set_option maxRecDepth 100000
set_option maxHeartbeats 4000000
namespace Kx
open PySem Q
local macro_rules | `(tactic| simp_arith [$as,*] $[$l]?) => `(tactic| simp [runOf, envOf, fSeq, fIfS, fTB, fB, gEq, gNe, gGt, gLt, gLe, gGe, gIB, fVar, fC, gIx, sq, Res.bind, Res.to, L2.atI, L2.ixN, fSet, fMv, fMo, fSetIx, fRet, gMod, gDiv, gI, gAdd, gMul, fCall, fConsr, fNilr, gInt, getL, putL, SqD.items, fOr, fAnd, fOrV, fAndV, fNotV, fNot, fTT, tru, fFn, fCons, fNil, fNext, gLen, rd, fYes, wipeE, Tg.bind, Tg.binds, Res.nx, fZp, srcD, zipD, fSl, gSl, fSomeO, fNoO, fTup, fLst, fLc, List.replicate, D.scal2, D.eq, D.eqs, D.plain, D.plains, D.dep, D.deps, LIM, n1_ne, n1_beq, n1_bne, n1_pos, cut1, srcD_sq, fIf, gTuple, gList, fRaise, gIsN, gNotN, RV.isN, fIsi, isi, subTy, tyGo, tyName, fAny, $as,*] $[$l]?)
def isop : Fm → Bool
  | .op => true
  | .nd _ _ => false
end Kx
set_option linter.all false
set_option maxRecDepth 100000
set_option maxHeartbeats 4000000
namespace Kx
open PySem Q
def sset (ds : List D) : List D := isort (dedup ds)
mutual
def Fm.avo : Fm → Bool
  | .op => true
  | .nd s ps => !decide (s = "end") && !decide (s = "mark") && Fm.avos ps
def Fm.avos : List Fm → Bool
  | [] => true
  | p :: ps => p.avo && Fm.avos ps
end
theorem avos_get : ∀ {ps : List Fm} {i : Nat} {p : Fm}, ps[i]? = some p → Fm.avos ps = true → p.avo = true
  | [], i, p, h, _ => by simp at h
  | q :: ps, 0, p, h, a => by
    simp at h; subst h
    simp only [Fm.avos, Bool.and_eq_true] at a; exact a.1
  | q :: ps, i + 1, p, h, a => by
    simp only [Fm.avos, Bool.and_eq_true] at a
    exact avos_get (ps := ps) (i := i) (by simpa using h) a.2
theorem avos_app : ∀ ps qs : List Fm, Fm.avos (ps ++ qs) = (Fm.avos ps && Fm.avos qs)
  | [], _ => by simp [Fm.avos]
  | p :: ps, qs => by simp only [List.cons_append, Fm.avos, avos_app ps qs, Bool.and_assoc]
theorem putF_avo : ∀ (l : List Nat) (f g x : Fm), pt l f = some g → f.avo = true → x.avo = true → (putF f l x).avo = true
  | [], f, g, x, _, _, hx => by simpa only [putF] using hx
  | i :: l, .op, g, x, h, _, _ => by simp [pt] at h
  | i :: l, .nd s ps, g, x, h, a, hx => by
    simp only [pt] at h
    simp only [Fm.avo, Bool.and_eq_true] at a
    cases hp : ps[i]? with
    | none => rw [hp] at h; simp at h
    | some p =>
      rw [hp] at h
      have ih := putF_avo l p g x h (avos_get hp a.2) hx
      have li := (List.getElem?_eq_some_iff.mp hp).1
      have e : ps = ps.take i ++ p :: ps.drop (i + 1) := by
        have : ps[i]'li = p := (List.getElem?_eq_some_iff.mp hp).2
        rw [← this, ← List.drop_eq_getElem_cons li, List.take_append_drop]
      have a2 := a.2
      rw [e, avos_app] at a2
      simp only [Fm.avos, Bool.and_eq_true] at a2
      simp only [putF, hp, Fm.avo, avos_app, Fm.avos, Bool.and_eq_true]
      exact ⟨a.1, a2.1, ih, a2.2.2⟩
end Kx
set_option linter.all false
set_option maxRecDepth 100000
set_option maxHeartbeats 4000000
namespace Kx
open PySem Q
end Kx
set_option linter.all false
set_option maxRecDepth 100000
set_option maxHeartbeats 4000000
namespace Kx
open PySem Q
end Kx
set_option linter.all false
set_option maxRecDepth 100000
set_option maxHeartbeats 4000000
namespace Kx
open PySem Q
end Kx
set_option linter.all false
set_option maxRecDepth 100000
set_option maxHeartbeats 4000000
namespace Kx
open PySem Q
end Kx
set_option linter.all false
set_option maxRecDepth 100000
set_option maxHeartbeats 4000000
namespace Kx
open PySem Q
end Kx
set_option linter.all false
set_option maxRecDepth 100000
set_option maxHeartbeats 4000000
namespace Kx
open PySem Q
end Kx
set_option linter.all false
set_option maxRecDepth 100000
set_option maxHeartbeats 4000000
namespace Kx
open PySem Q
def fstN (f : Fm) : Nat → List Fm → Option Nat
  | _, [] => none
  | n, s :: ss => if agr s f then some n else fstN f (n + 1) ss
def fst (ss : List Fm) (f : Fm) : Option Nat := match f with
  | .op => none
  | _ => fstN f 0 ss
end Kx
set_option linter.all false
set_option maxRecDepth 100000
set_option maxHeartbeats 4000000
namespace Kx
open PySem Q
mutual
def bl (ss : List Fm) : Fm → Fm
  | .op => .op
  | .nd s ps => match fst ss (.nd s (bls ss ps)) with
    | none => .nd s (bls ss ps)
    | some _ => .op
def bls (ss : List Fm) : List Fm → List Fm
  | [] => []
  | p :: ps => bl ss p :: bls ss ps
end
end Kx
set_option linter.all false
set_option maxRecDepth 100000
set_option maxHeartbeats 4000000
namespace Kx
open PySem Q
end Kx
set_option linter.all false
set_option maxRecDepth 100000
set_option maxHeartbeats 4000000
namespace Kx
open PySem Q
def hit (ss : List Fm) (f : Fm) : Bool := !isop f && ss.any fun s => agr s f
end Kx
set_option linter.all false
set_option maxRecDepth 100000
set_option maxHeartbeats 4000000
namespace Kx
open PySem Q
end Kx
set_option linter.all false
set_option maxRecDepth 100000
set_option maxHeartbeats 4000000
namespace Kx
open PySem Q
end Kx
set_option linter.all false
set_option maxRecDepth 100000
set_option maxHeartbeats 4000000
namespace Kx
open PySem Q
end Kx
set_option linter.all false
namespace Ev
open PySem Q
variable {env env' : En} {μ μ1 μ2 μ3 : Mu} {fa fb fe : FE} {fr : FA} {ft ft' : FT} {d d' : D} {ds es xs : List D} {x y z : RV} {n i j : Nat} {a b c : Bool}
theorem vV (h : env[i]? = some (.val d)) : fVar i env μ = .ok (.val d) μ := by simp [fVar, h]
theorem vO (h : env[i]? = some (.own ds)) : fVar i env μ = .ok (.own i) μ := by simp [fVar, h]
theorem cC : fC d env μ = .ok (.val d) μ := rfl
theorem nil : fNil env μ = .ok [] μ := rfl
theorem cons (h1 : fa env μ = .ok (.val d) μ1) (h2 : fr env μ1 = .ok ds μ2) : fCons fa fr env μ = .ok (d :: ds) μ2 := by simp [fCons, Res.bind, h1, h2]
theorem starT (h1 : fe env μ = .ok (.val (.tup ds)) μ1) (h2 : fr env μ1 = .ok es μ2) : fStar fe fr env μ = .ok (ds ++ es) μ2 := by simp [fStar, Res.bind, h1, h2]
theorem starL (h1 : fe env μ = .ok (.val (.lst ds)) μ1) (h2 : fr env μ1 = .ok es μ2) : fStar fe fr env μ = .ok (ds ++ es) μ2 := by simp [fStar, Res.bind, h1, h2]
theorem tup (h1 : fr env μ = .ok ds μ1) (h2 : ds.length ≤ 16777216) : fTup fr env μ = .ok (.val (.tup ds)) μ1 := by simp [fTup, Res.bind, h1, LIM, h2]
theorem lst (h1 : fr env μ = .ok ds μ1) (h2 : ds.length ≤ 16777216) : fLst fr env μ = .ok (.val (.lst ds)) μ1 := by simp [fLst, Res.bind, h1, LIM, h2]
theorem b2 {g : G2} (h1 : fa env μ = .ok x μ1) (h2 : fb env μ1 = .ok y μ2) (h3 : g env x y μ2 = .ok z μ3) : fB g fa fb env μ = .ok z μ3 := by simp [fB, Res.bind, h1, h2, h3]
section
variable {p q : Int} {s t : Str}
theorem gAddI : gAdd env (.val (.int p)) (.val (.int q)) μ = .ok (.val (.int (p + q))) μ := rfl
theorem gAddT (h : ds.length + es.length ≤ 16777216) : gAdd env (.val (.tup ds)) (.val (.tup es)) μ = .ok (.val (.tup (ds ++ es))) μ := by simp [gAdd, LIM, h]
theorem gCatE (h1 : sqM env μ x = some ds) (h2 : sqM env μ y = some es) (h : ds.length + es.length ≤ 16777216) : gCat env x y μ = .ok (.val (.lst (ds ++ es))) μ := by simp [gCat, h1, h2, LIM, h]
theorem gSubI : gSub env (.val (.int p)) (.val (.int q)) μ = .ok (.val (.int (p - q))) μ := rfl
theorem gMulI (h : mulOk p q = true) : gMul env (.val (.int p)) (.val (.int q)) μ = .ok (.val (.int (p * q))) μ := by simp [gMul, gI, h]
theorem gLtI : gLt env (.val (.int p)) (.val (.int q)) μ = .ok (.val (.bl (decide (p < q)))) μ := rfl
theorem gLeI : gLe env (.val (.int p)) (.val (.int q)) μ = .ok (.val (.bl (decide (p ≤ q)))) μ := rfl
theorem gGtI : gGt env (.val (.int p)) (.val (.int q)) μ = .ok (.val (.bl (decide (q < p)))) μ := rfl
theorem gGeI : gGe env (.val (.int p)) (.val (.int q)) μ = .ok (.val (.bl (decide (q ≤ p)))) μ := rfl
theorem gIsNV : gIsN env (.val d) (.val .non) μ = .ok (.val (.bl (RV.isN (.val d)))) μ := rfl
theorem gNotNV : gNotN env (.val d) (.val .non) μ = .ok (.val (.bl (!RV.isN (.val d)))) μ := rfl
theorem gEqI : gEq env (.val (.int p)) (.val (.int q)) μ = .ok (.val (.bl (decide (p = q)))) μ := by
  have : (p == q) = decide (p = q) := rfl
  simp [gEq, rd, D.scal2, D.eq, this]
theorem gNeI : gNe env (.val (.int p)) (.val (.int q)) μ = .ok (.val (.bl (!decide (p = q)))) μ := by
  have : (p == q) = decide (p = q) := rfl
  simp [gNe, rd, D.scal2, D.eq, this]
theorem gEqS : gEq env (.val (.str s)) (.val (.str t)) μ = .ok (.val (.bl (decide (s = t)))) μ := by
  have : (s == t) = decide (s = t) := rfl
  simp [gEq, rd, D.scal2, D.eq, this]
theorem gNeS : gNe env (.val (.str s)) (.val (.str t)) μ = .ok (.val (.bl (!decide (s = t)))) μ := by
  have : (s == t) = decide (s = t) := rfl
  simp [gNe, rd, D.scal2, D.eq, this]
theorem gEqB {p q : Bool} : gEq env (.val (.bl p)) (.val (.bl q)) μ = .ok (.val (.bl (p == q))) μ := by simp [gEq, rd, D.scal2, D.eq]
theorem gIxS {sd : SqD} (hx : ∀ s, x ≠ .val (.str s)) (h1 : sq env μ x = some sd) (h2 : L2.atI sd.items p = some d) : gIx env x (.val (.int p)) μ = .ok (.val d) μ := by
  unfold gIx
  cases x with
  | own i => simp [h1, h2]
  | val e => cases e <;> first | exact absurd rfl (hx _) | simp [h1, h2]
theorem at0 : L2.atI (d :: ds) 0 = some d := by simpa using Gn.atI_nat (d :: ds) 0
theorem at1 : L2.atI (d :: d' :: ds) 1 = some d' := by simpa using Gn.atI_nat (d :: d' :: ds) 1
theorem at2 {d'' : D} : L2.atI (d :: d' :: d'' :: ds) 2 = some d'' := by simpa using Gn.atI_nat (d :: d' :: d'' :: ds) 2
theorem atN (h : ds[i]? = some d) : L2.atI ds (i : Int) = some d := by rw [Gn.atI_nat]; exact h
theorem atS (h : ds[i]? = some d) : L2.atI (d' :: ds) ((i : Int) + 1) = some d := by
  have : ((i : Int) + 1) = ((i + 1 : Nat) : Int) := by omega
  rw [this, Gn.atI_nat]; simpa using h
theorem atS' (h : ds[i]? = some d) : L2.atI (d' :: ds) (1 + (i : Int)) = some d := by rw [Int.add_comm]; exact atS h
end
theorem sl {g : GS} {fl fh : FO} {l h : Option Int} (h1 : fe env μ = .ok x μ1) (h2 : fl env μ1 = .ok l μ2) (h3 : fh env μ2 = .ok h μ3) (h4 : g env x l h μ3 = .ok y μ3) : fSl g fe fl fh env μ = .ok y μ3 := by simp [fSl, Res.bind, h1, h2, h3, h4]
theorem oNo : fNoO env μ = .ok none μ := rfl
theorem oSome {p : Int} (h : fe env μ = .ok (.val (.int p)) μ1) : fSomeO fe env μ = .ok (some p) μ1 := by simp [fSomeO, Res.bind, h]
theorem cutFrom1 : cut (d :: ds) (some 1) none = ds := by
  have := Gn.cut_from (d :: ds) 1
  simpa using this
theorem cutTo1 : cut (d :: ds) none (some 1) = [d] := by
  have := Gn.cut_to (d :: ds) 1
  simpa using this
theorem cutToN : cut ds none (some (n : Int)) = ds.take n := Gn.cut_to ds n
theorem cutFromN : cut ds (some (n : Int)) none = ds.drop n := Gn.cut_from ds n
theorem cutToS : cut (d :: ds) none (some ((n : Int) + 1)) = d :: ds.take n := by
  have h := Gn.cut_to (d :: ds) (n + 1)
  have e : (((n + 1 : Nat)) : Int) = (n : Int) + 1 := by omega
  rw [e] at h; simpa using h
theorem cutFromS2 : cut (d :: ds) (some ((n : Int) + 1 + 1)) none = ds.drop (n + 1) := by
  have h := Gn.cut_from (d :: ds) (n + 2)
  have e : (((n + 2 : Nat)) : Int) = (n : Int) + 1 + 1 := by omega
  rw [e] at h; simpa using h
theorem cutToS' : cut (d :: ds) none (some (1 + (n : Int))) = d :: ds.take n := by rw [Int.add_comm]; exact cutToS
theorem cutFromS2' : cut (d :: ds) (some (1 + (n : Int) + 1)) none = ds.drop (n + 1) := by rw [Int.add_comm 1]; exact cutFromS2
section
variable {g : GC} {rs : List RV} {ar : FAr}
theorem call (h1 : ar env μ = .ok rs μ1) (h2 : g env rs μ1 = .ok y μ2) : fCall g ar env μ = .ok y μ2 := by simp [fCall, Res.bind, h1, h2]
theorem rnil : fNilr env μ = .ok [] μ := rfl
theorem rcons (h1 : fa env μ = .ok x μ1) (h2 : ar env μ1 = .ok rs μ2) : fConsr fa ar env μ = .ok (x :: rs) μ2 := by simp [fConsr, Res.bind, h1, h2]
theorem lenT : gLen env [.val (.tup ds)] μ = .ok (.val (.int (ds.length : Int))) μ := rfl
theorem lenL : gLen env [.val (.lst ds)] μ = .ok (.val (.int (ds.length : Int))) μ := rfl
theorem lenF : gLen env [.val (.frz ds)] μ = .ok (.val (.int (ds.length : Int))) μ := rfl
theorem lenO (h : env[i]? = some (.own ds)) : gLen env [.own i] μ = .ok (.val (.int (ds.length : Int))) μ := by simp [gLen, sq, h, SqD.items]
theorem tupT : gTuple env [.val (.tup ds)] μ = .ok (.val (.tup ds)) μ := rfl
theorem tupL : gTuple env [.val (.lst ds)] μ = .ok (.val (.tup ds)) μ := rfl
theorem tupO (h : env[i]? = some (.own ds)) : gTuple env [.own i] μ = .ok (.val (.tup ds)) μ := by simp [gTuple, sq, h, SqD.items]
theorem lstT : gList env [.val (.tup ds)] μ = .ok (.val (.lst ds)) μ := rfl
theorem lstL : gList env [.val (.lst ds)] μ = .ok (.val (.lst ds)) μ := rfl
theorem lstO (h : env[i]? = some (.own ds)) : gList env [.own i] μ = .ok (.val (.lst ds)) μ := by simp [gList, sq, h, SqD.items]
theorem bls_map {α : Type} (f : α → Bool) : ∀ l : List α, bls (l.map fun x => .bl (f x)) = some (l.map f)
  | [] => rfl
  | x :: l => by simp [bls, bls_map f l]
theorem all_ {bs : List Bool} (h : bls ds = some bs) : gAll env [.val (.lst ds)] μ = .ok (.val (.bl (bs.all id))) μ := by simp [gAll, gBls, sq, h]
theorem any_ {bs : List Bool} (h : bls ds = some bs) : gAny env [.val (.lst ds)] μ = .ok (.val (.bl (bs.any id))) μ := by simp [gAny, gBls, sq, h]
theorem allM {α : Type} {f : α → Bool} {l : List α} : gAll env [.val (.lst (l.map fun x => .bl (f x)))] μ = .ok (.val (.bl (l.all f))) μ := by
  rw [all_ (bls_map f l), List.all_map]; rfl
theorem anyM {α : Type} {f : α → Bool} {l : List α} : gAny env [.val (.lst (l.map fun x => .bl (f x)))] μ = .ok (.val (.bl (l.any f))) μ := by
  rw [any_ (bls_map f l), List.any_map]; rfl
theorem srt (h : sq env μ x = some (.lst ds)) (h2 : sortable ds = true) (h3 : ds.length ≤ 16777216) : gSorted env [x] μ = .ok (.val (.lst (isort ds))) μ := by simp [gSorted, h, h2, LIM, h3]
theorem int1 {p : Int} : gInt env [.val (.int p)] μ = .ok (.val (.int p)) μ := rfl
theorem intB : gInt env [.val (.bl b)] μ = .ok (.val (.int (if b then 1 else 0))) μ := rfl
theorem min2 {p q : Int} : gMin2 env [.val (.int p), .val (.int q)] μ = .ok (.val (.int (if q < p then q else p))) μ := rfl
theorem max2 {p q : Int} : gMax2 env [.val (.int p), .val (.int q)] μ = .ok (.val (.int (if q > p then q else p))) μ := rfl
end
section
variable {r : RunF}
theorem fn (h1 : fr env μ = .ok ds μ1) (h2 : r ds μ1 = .ok (.val d) μ2) (l : ds.length = n) : fFn n r fr env μ = .ok (.val d) μ2 := by simp [fFn, Res.bind, h1, l, h2]
theorem fnN (h1 : fr env μ = .ok ds μ1) (h2 : r ds μ1 = .ok (.own es) μ2) (l : ds.length = n) : fFnN n r fr env μ = .ok (.val (.lst es)) μ2 := by simp [fFnN, Res.bind, h1, l, h2]
theorem fn0 (h2 : r [] μ = .ok (.val d) μ2) : fFn0 r env μ = .ok (.val d) μ2 := by simp [fFn0, Res.bind, Res.nx, h2]
end
theorem tB (h : fa env μ = .ok (.val (.bl b)) μ1) : fTB fa env μ = .ok b μ1 := by simp [fTB, Res.bind, h]
theorem tT (h : fa env μ = .ok x μ1) (h2 : tru env μ1 x = some b) : fTT fa env μ = .ok b μ1 := by simp [fTT, Res.bind, h, h2]
theorem truB : tru env μ (.val (.bl b)) = some b := rfl
theorem yes : fYes env μ = .ok true μ := rfl
theorem not_ (h : ft env μ = .ok b μ1) : fNot ft env μ = .ok (!b) μ1 := by simp [fNot, Res.bind, h]
theorem andV (h : fa env μ = .ok (.val (.bl b)) μ1) (h2 : b = true → fb env μ1 = .ok (.val (.bl c)) μ1) : fAndV fa fb env μ = .ok (.val (.bl (b && c))) μ1 := by
  cases b <;> simp_all [fAndV, Res.bind, tru]
theorem orV (h : fa env μ = .ok (.val (.bl b)) μ1) (h2 : b = false → fb env μ1 = .ok (.val (.bl c)) μ1) : fOrV fa fb env μ = .ok (.val (.bl (b || c))) μ1 := by
  cases b <;> simp_all [fOrV, Res.bind, tru]
theorem notV (h : fa env μ = .ok x μ1) (h2 : tru env μ1 x = some b) : fNotV fa env μ = .ok (.val (.bl (!b))) μ1 := by simp [fNotV, Res.bind, h, h2]
theorem isiE {ns : List String} (h : fa env μ = .ok x μ1) (h2 : isi ns x μ1 = .ok y μ2) : fIsi ns fa env μ = .ok y μ2 := by simp [fIsi, Res.bind, h, h2]
theorem ch {p q r : Int} {f g : Int → Int → Bool} {fc : FE} (h1 : fa env μ = .ok (.val (.int p)) μ1) (h2 : fb env μ1 = .ok (.val (.int q)) μ1) (h3 : f p q = true → fc env μ1 = .ok (.val (.int r)) μ1) : fCh f g fa fb fc env μ = .ok (.val (.bl (f p q && g q r))) μ1 := by
  unfold fCh
  rw [h1]
  simp only [Res.bind, h2]
  cases e : f p q with
  | true => simp [h3 e]
  | false => simp
theorem anyT (h : fe env μ = .ok (.val (.tup ds)) μ1) : fAny fe env μ = .ok ds μ1 := by simp [fAny, h]
theorem ownI (h : env[i]? = some (.own ds)) : fOwnI i env μ = .ok ds μ := by simp [fOwnI, h]
theorem ownV (h : env[i]? = some (.val (.lst ds))) : fOwnI i env μ = .ok ds μ := by simp [fOwnI, h]
theorem rng1 (h : fa env μ = .ok (.val (.int (n : Int))) μ1) (hr : n ≤ 1000000) : fRng1 fa env μ = .ok (rangeD 0 n) μ1 := Gn.fRng1_eq h hr
theorem en {x : D} (h : fe env μ = .ok (.val x) μ1) (h2 : srcD x = some ds) : fEn fe env μ = .ok (enumD 0 ds) μ1 := by simp [fEn, Res.bind, h, h2]
theorem zp {x y : D} (h : fa env μ = .ok (.val x) μ1) (h' : fb env μ1 = .ok (.val y) μ2) (h2 : srcD x = some ds) (h3 : srcD y = some es) : fZp fa fb env μ = .ok (zipD ds es) μ2 := by simp [fZp, Res.bind, h, h', h2, h3]
theorem lc {fi : FI} {t : Tg} {vs : List Nat} (h1 : fi env μ = .ok ds μ1) (h2 : ds.length ≤ 16777216) (h3 : lcLoop t ft fe (wipeE env vs) ds μ1 [] = .ok es μ2) : fLc fi t ft fe vs env μ = .ok (.val (.lst es)) μ2 := Gn.fLc_eq h1 h2 h3
variable {v : EV} {R : SRes}
theorem mv (h : fe env μ = .ok (.val d) μ1) : fMv fe env μ = .ok (.val d) μ1 := by simp [fMv, Res.bind, h]
theorem mo (h : fe env μ = .ok (.val (.lst ds)) μ1) : fMo fe env μ = .ok (.own ds) μ1 := by simp [fMo, Res.bind, h]
variable {f g k : FS} {fm fm' : FM}
theorem seq (h : f env μ = .nxt env' μ1) (h2 : g env' μ1 = R) : fSeq f g env μ = R := by simp [fSeq, h, h2]
theorem seqR (h : f env μ = .ret v μ1) : fSeq f g env μ = .ret v μ1 := by simp [fSeq, h]
theorem set (h : fm env μ = .ok v μ1) : fSet i fm env μ = .nxt (env.set i v) μ1 := by simp [fSet, Res.to, h]
theorem par {v' : EV} (h : fm env μ = .ok v μ1) (h2 : fm' env μ1 = .ok v' μ2) : fPar i j fm fm' env μ = .nxt ((env.set i v).set j v') μ2 := by simp [fPar, Res.to, h, h2]
theorem app (h1 : env[i]? = some (.own ds)) (h : fe env μ = .ok (.val d) μ1) (h2 : ds.length < 16777216) : fApp i fe env μ = .nxt (env.set i (.own (ds ++ [d]))) μ1 := by
  simp [fApp, getL, putL, Res.to, h1, h, LIM, h2]
theorem ext (h1 : env[i]? = some (.own ds)) (h : fe env μ = .ok (.val (.lst es)) μ1) (h2 : ds.length + es.length ≤ 16777216) : fExt i fe env μ = .nxt (env.set i (.own (ds ++ es))) μ1 := by
  simp [fExt, getL, putL, Res.to, h1, h, LIM, h2]
theorem drop_ (h : fe env μ = .ok x μ1) : fDrop fe env μ = .nxt env μ1 := by simp [fDrop, Res.to, h]
theorem if_ (h : ft env μ = .ok b μ1) (h1 : b = true → f env μ1 = R) (h2 : b = false → g env μ1 = R) : fIfS ft f g env μ = R := by
  cases b <;> simp_all [fIfS, Res.to]
theorem sif (h : ft env μ = .ok b μ1) (h1 : b = true → fSeq f k env μ1 = R) (h2 : b = false → fSeq g k env μ1 = R) : fSeq (fIfS ft f g) k env μ = R := by
  cases b <;> simp_all [fSeq, fIfS, Res.to]
theorem snx (h : k env μ = R) : fSeq fNext k env μ = R := h
theorem frz (h1 : env[i]? = some (.own ds)) (h : f (env.set i (.val (.lst ds))) μ = R) : fFrz i f env μ = R := by simp [fFrz, h1, h]
theorem frzV (h1 : env[i]? = some (.val d)) (h : f env μ = R) : fFrz i f env μ = R := by simp [fFrz, h1, h]
theorem sfrz (h1 : env[i]? = some (.own ds)) (h : fSeq f k (env.set i (.val (.lst ds))) μ = R) : fSeq (fFrz i f) k env μ = R := by
  rw [← h]; simp [fSeq, fFrz, h1]
theorem sfrzV (h1 : env[i]? = some (.val d)) (h : fSeq f k env μ = R) : fSeq (fFrz i f) k env μ = R := by
  rw [← h]; simp [fSeq, fFrz, h1]
theorem for_ {fi : FI} {t : Tg} (h : fi env μ = .ok ds μ1) (h2 : loop t f ds env μ1 = R) : fFor fi t f env μ = R := Gn.fFor_nxt h h2
theorem runR {b : FS} (he : envOf n ds = env) (h : b env μ = .ret v μ') : runOf n b ds μ = .ok v μ' := Gn.runOf_ret env he h
theorem loopN {t : Tg} (hb : t.bind d env = some env1) (h : f env1 μ = .nxt env2 μ1) (h2 : loop t f ds env2 μ1 = R) : loop t f (d :: ds) env μ = R := (Gn.loop_nxt hb h).trans h2
end Ev
namespace Ev
open PySem Q
variable {env env' : En} {μ μ1 μ2 μ3 : Mu} {fa fb fe : FE} {fr : FA} {ft ft' : FT} {d d' : D} {ds es xs : List D} {x y z : RV} {n i j : Nat} {a b c : Bool} {r : RunF} {v : EV} {R : SRes} {f g k : FS}
theorem fnG (h1 : fr env μ = .ok ds μ1) (h2 : r ds μ1 = .ok v μ2) (h3 : v.rv = some x) (l : ds.length = n) : fFn n r fr env μ = .ok x μ2 := by
  cases v <;> simp_all [fFn, Res.bind, EV.rv]
def itm : RV → Option (List D)
  | .val (.tup ds) => some ds
  | .val (.lst ds) => some ds
  | .val (.frz ds) => some ds
  | _ => none
theorem anyG (h : fe env μ = .ok x μ1) (h2 : itm x = some ds) : fAny fe env μ = .ok ds μ1 := by
  unfold itm at h2
  split at h2 <;> first | (cases h2; simp [fAny, h]) | cases h2
theorem iteT {α : Type} {X Y Z : α} (h : X = Z) : (if true = true then X else Y) = Z := by simpa using h
theorem iteF {α : Type} {X Y Z : α} (h : Y = Z) : (if false = true then X else Y) = Z := by simpa using h
theorem iteA {ft' : FT} (h : b = true → ft' env μ = .ok c μ) : (if b = true then ft' env μ else .ok false μ) = .ok (b && c) μ := by cases b <;> simp_all
theorem iteO {ft' : FT} (h : b = false → ft' env μ = .ok c μ) : (if b = true then .ok true μ else ft' env μ) = .ok (b || c) μ := by cases b <;> simp_all
theorem iteE (h1 : b = true → fa env μ = .ok (.val d) μ) (h2 : b = false → fb env μ = .ok (.val d') μ) : (if b = true then fa env μ else fb env μ) = .ok (.val (if b = true then d else d')) μ := by cases b <;> simp_all
theorem andG {u : Res Bool} (h : ft env μ = .ok b μ1) (h2 : (if b = true then ft' env μ1 else .ok false μ1) = u) : fAnd ft ft' env μ = u := by simp only [fAnd, Res.bind, h]; exact h2
theorem orG {u : Res Bool} (h : ft env μ = .ok b μ1) (h2 : (if b = true then .ok true μ1 else ft' env μ1) = u) : fOr ft ft' env μ = u := by simp only [fOr, Res.bind, h]; exact h2
theorem ifG {u : Res RV} (h : ft env μ = .ok b μ1) (h2 : (if b = true then fa env μ1 else fb env μ1) = u) : fIf ft fa fb env μ = u := by simp only [fIf, Res.bind, h]; exact h2
def notStr : RV → Bool
  | .val (.str _) => false
  | _ => true
theorem gIxG {p : Int} {sd : SqD} (h1 : sq env μ x = some sd) (h2 : L2.atI sd.items p = some d) (hx : notStr x = true) : gIx env x (.val (.int p)) μ = .ok (.val d) μ :=
  gIxS (fun s h => by subst h; cases hx) h1 h2
theorem setC {fm : FM} (h : fm env μ = .ok v μ1) (e : env.set i v = env') : fSet i fm env μ = .nxt env' μ1 := by rw [set h, e]
theorem appC (h1 : env[i]? = some (.own ds)) (h : fe env μ = .ok (.val d) μ1) (h2 : ds.length < 16777216) (e : env.set i (.own (ds ++ [d])) = env') : fApp i fe env μ = .nxt env' μ1 := by rw [app h1 h h2, e]
theorem extC (h1 : env[i]? = some (.own ds)) (h : fe env μ = .ok (.val (.lst es)) μ1) (h2 : ds.length + es.length ≤ 16777216) (e : env.set i (.own (ds ++ es)) = env') : fExt i fe env μ = .nxt env' μ1 := by rw [ext h1 h h2, e]
def tupOf : RV → Option (List D)
  | .val (.tup ds) => some ds
  | _ => none
theorem gAddG (h1 : tupOf x = some ds) (h2 : tupOf y = some es) (l : ds.length + es.length ≤ 16777216) : gAdd env x y μ = .ok (.val (.tup (ds ++ es))) μ := by
  unfold tupOf at h1 h2
  split at h1 <;> cases h1
  split at h2 <;> cases h2
  exact gAddT l
theorem tupG (h : itm x = some ds) : gTuple env [x] μ = .ok (.val (.tup ds)) μ := by
  unfold itm at h
  split at h <;> cases h <;> rfl
theorem lstG (h : itm x = some ds) : gList env [x] μ = .ok (.val (.lst ds)) μ := by
  unfold itm at h
  split at h <;> cases h <;> rfl
theorem lenG (h : itm x = some ds) : gLen env [x] μ = .ok (.val (.int (ds.length : Int))) μ := by
  unfold itm at h
  split at h <;> cases h <;> rfl
theorem conv (h : fe env μ = .ok x μ1) (e : x = y) : fe env μ = .ok y μ1 := by rw [h, e]
theorem convT (h : ft env μ = .ok a μ1) (e : a = b) : ft env μ = .ok b μ1 := by rw [h, e]
theorem sset' (h : fe env μ = .ok (.val (.lst ds)) μ1) (ok : setOk ds = true) : fSset' fe env μ = .ok (.val (.lst (isort (dedup ds)))) μ1 := by simp [fSset', Res.bind, h, sq, ok]
theorem itmR {o : Option (List D)} (h : itm x = o) : itm x = o := h
theorem srcR {o : Option (List D)} (h : srcD d = o) : srcD d = o := h
theorem rvR {o : Option RV} (h : v.rv = o) : v.rv = o := h
theorem truR {o : Option Bool} (h : tru env μ x = o) : tru env μ x = o := h
theorem isiR {ns : List String} {o : Res RV} (h : isi ns x μ = o) : isi ns x μ = o := h
theorem lenR {m : Nat} (h : ds.length = m) : ds.length = m := h
theorem leR {m : Nat} (h : ds.length ≤ m) : ds.length ≤ m := h
theorem seqRet {fm : FM} {g : FS} (h : fRet fm env μ = .ret v μ1) : fSeq (fRet fm) g env μ = .ret v μ1 := seqR h
theorem slTG {l h : Option Int} (h1 : sq env μ x = some (.tup ds)) (c : cut ds l h = es) : gSl env x l h μ = .ok (.val (.tup es)) μ := by simp [gSl, h1, c]
theorem slLG {l h : Option Int} (h1 : sq env μ x = some (.lst ds)) (c : cut ds l h = es) : gSl env x l h μ = .ok (.val (.lst es)) μ := by simp [gSl, h1, c]
theorem slNG {l h : Option Int} (h1 : sq env μ x = some (.lst ds)) (c : cut ds l h = es) : gSlN env x l h μ = .ok (.val (.lst es)) μ := by simp [gSlN, h1, c]
theorem retC (h : fe env μ = .ok (.val d) μ1) (e : d = d') : fRet (fMv fe) env μ = .ret (.val d') μ1 := by subst e; simp [fRet, fMv, Res.to, Res.bind, h]
theorem retL (h : fe env μ = .ok (.val (.lst ds)) μ1) (e : ds = es) : fRet (fMo fe) env μ = .ret (.own es) μ1 := by subst e; simp [fRet, fMo, Res.to, Res.bind, h]
theorem retOC (h : env[i]? = some (.own ds)) (e : ds = es) : fRetO i env μ = .ret (.own es) μ := by subst e; simp [fRetO, h]
theorem retB (h : fe env μ = .ok (.val (.bl a)) μ1) (e : a = b) : fRet (fMv fe) env μ = .ret (.val (.bl b)) μ1 := by subst e; simp [fRet, fMv, Res.to, Res.bind, h]
end Ev
set_option linter.all false
set_option maxRecDepth 100000
set_option maxHeartbeats 4000000
namespace Kx
open PySem Q

end Kx
set_option linter.all false
set_option maxRecDepth 100000
set_option maxHeartbeats 4000000
namespace Kx
open PySem Q
def endS : Str := "end"
mutual
def cl : Fm → Fm
  | .op => .nd endS []
  | .nd s ps => .nd s (cls ps)
def cls : List Fm → List Fm
  | [] => []
  | p :: ps => cl p :: cls ps
end
mutual
def Fm.noE : Fm → Bool
  | .op => true
  | .nd s ps => !decide (s = endS) && Fm.noEs ps
def Fm.noEs : List Fm → Bool
  | [] => true
  | p :: ps => p.noE && Fm.noEs ps
end
def sidesE (A : List Fm) : Prop := ∀ t ∈ A, t.noE = true ∧ isop t = false
end Kx
set_option linter.all false
set_option maxRecDepth 100000
set_option maxHeartbeats 4000000
namespace Kx
open PySem Q
theorem sides_sub {A B : List Fm} (h : sidesE A) (s : ∀ t ∈ B, t ∈ A) : sidesE B := fun t ht => h t (s t ht)
end Kx
set_option linter.all false
set_option maxRecDepth 100000
set_option maxHeartbeats 4000000
namespace Kx
open PySem Q
mutual
def Fm.has (n : Str) : Fm → Bool
  | .op => false
  | .nd s ps => decide (s = n) || Fm.hass n ps
def Fm.hass (n : Str) : List Fm → Bool
  | [] => false
  | p :: ps => p.has n || Fm.hass n ps
end
end Kx
set_option linter.all false
set_option maxRecDepth 100000
set_option maxHeartbeats 4000000
namespace Kx
open PySem Q
structure Gd (A : List Fm) : Prop where
  f : Fm.fines A = true
  l : A.length ≤ 100
  d : Fm.dps A ≤ 6
  z : ∀ s ∈ A, s.sz ≤ 30
  e : sidesE A
theorem Gd.sub {A B : List Fm} (h : Gd A) (s : ∀ t ∈ B, t ∈ A) (l : B.length ≤ 100) : Gd B := ⟨fines_of fun t ht => fines_mem h.f (s t ht), l, dps_of fun t ht => Nat.le_trans (dps_mem (s t ht)) h.d, fun t ht => h.z t (s t ht), sides_sub h.e s⟩
end Kx
set_option linter.all false
set_option maxRecDepth 100000
set_option maxHeartbeats 4000000
namespace Kx
open PySem Q
end Kx
set_option linter.all false
set_option maxRecDepth 100000
set_option maxHeartbeats 4000000
namespace Kx
open PySem Q
end Kx
set_option linter.all false
set_option maxRecDepth 100000
set_option maxHeartbeats 4000000
namespace Kx
open PySem Q
end Kx
set_option linter.all false
set_option maxRecDepth 100000
set_option maxHeartbeats 4000000
namespace Kx
open PySem Q
end Kx
set_option linter.all false
set_option maxRecDepth 100000
set_option maxHeartbeats 4000000
namespace Kx
open PySem Q
def srt (P : List Fm) : Prop := sset (Fm.ds false P) = Fm.ds false P
abbrev pr (P Q' : List Fm) : D := .tup [.tup (Fm.ds false P), .tup (Fm.ds false Q')]
end Kx
set_option linter.all false
set_option maxRecDepth 100000
set_option maxHeartbeats 4000000
namespace Kx
open PySem Q
end Kx
set_option linter.all false
set_option maxRecDepth 100000
set_option maxHeartbeats 4000000
namespace Kx
open PySem Q
end Kx
set_option linter.all false
set_option maxRecDepth 100000
set_option maxHeartbeats 4000000
namespace Kx
open PySem Q
mutual
theorem avo_noE : ∀ f : Fm, f.avo = true → f.noE = true ∧ f.has "mark" = false
  | .op, _ => ⟨rfl, rfl⟩
  | .nd s ps, h => by
    simp only [Fm.avo, Bool.and_eq_true] at h
    obtain ⟨a, b⟩ := avos_noE ps h.2
    refine ⟨by simp only [Fm.noE, Bool.and_eq_true]; exact ⟨h.1.1, a⟩, ?_⟩
    have h2 := h.1.2
    simp only [Fm.has, b, Bool.or_false]
    simpa using h2
theorem avos_noE : ∀ ps : List Fm, Fm.avos ps = true → Fm.noEs ps = true ∧ Fm.hass "mark" ps = false
  | [], _ => ⟨rfl, rfl⟩
  | p :: ps, h => by
    simp only [Fm.avos, Bool.and_eq_true] at h
    obtain ⟨a, b⟩ := avo_noE p h.1
    obtain ⟨c, d⟩ := avos_noE ps h.2
    exact ⟨by simp only [Fm.noEs, a, c, Bool.and_self], by simp only [Fm.hass, b, d, Bool.or_self]⟩
end
structure Sd (g : Fm) : Prop where
  f : g.fine = true
  a : g.avo = true
  o : isop g = false
structure Sm (g : Fm) : Prop extends Sd g where
  z : g.sz ≤ 10
  d : g.dp ≤ 5
end Kx
set_option linter.all false
set_option maxRecDepth 100000
set_option maxHeartbeats 4000000
namespace Kx
open PySem Q
instance : DecidableEq Fm := fun f g => decidable_of_iff (D.eq (f.d false) (g.d false) = true) (d_eq f g)
end Kx
set_option linter.all false
set_option maxRecDepth 100000
set_option maxHeartbeats 4000000
namespace Kx
open PySem Q
end Kx
set_option linter.all false
set_option maxRecDepth 100000
set_option maxHeartbeats 4000000
namespace Kx
open PySem Q
theorem Sd.put {f x : Fm} (h : Sd f) (hx : x.fine = true) (ax : x.avo = true) {l : List Nat} {g : Fm} (hl : l ≠ []) (hg : pt l f = some g) : Sd (putF f l x) := by
  refine ⟨(putF_ok l f g x hg h.f hx).1, putF_avo l f g x hg h.a ax, ?_⟩
  cases l with
  | nil => exact absurd rfl hl
  | cons i l =>
    cases f with
    | op => simp [pt] at hg
    | nd s ps =>
      simp only [pt] at hg
      cases hp : ps[i]? with
      | none => rw [hp] at hg; simp at hg
      | some p => simp only [putF, hp]; rfl
end Kx
set_option linter.all false
set_option maxRecDepth 100000
set_option maxHeartbeats 4000000
namespace Kx
open PySem Q
end Kx
set_option linter.all false
set_option maxRecDepth 100000
set_option maxHeartbeats 4000000
namespace Kx
open PySem Q
structure Bk (F : List Fm) (many : Nat) : Prop where
  m : ∀ g ∈ F, Sm g ∧ g.sz ≤ 7 ∧ g.dp ≤ 3
  s : srt F
  l : F.length ≤ many
theorem Bk.szs : ∀ {F : List Fm}, (∀ g ∈ F, Sm g ∧ g.sz ≤ 7 ∧ g.dp ≤ 3) → Fm.szs F ≤ 7 * F.length
  | [], _ => by simp [Fm.szs]
  | f :: F, h => by
    have a := Bk.szs fun x hx => h x (List.mem_cons_of_mem _ hx)
    have b := (h f List.mem_cons_self).2.1
    simp only [Fm.szs, List.length_cons]; omega
end Kx
namespace Kx
open PySem Q
end Kx
set_option linter.all false
set_option maxRecDepth 100000
set_option maxHeartbeats 4000000
namespace Kx
open PySem Q
end Kx
set_option linter.all false
set_option maxRecDepth 100000
set_option maxHeartbeats 4000000
namespace Kx
open PySem Q
end Kx
set_option linter.all false
set_option maxRecDepth 100000
set_option maxHeartbeats 4000000
namespace Kx
open PySem Q

def fits (ss : List Fm) (f : Fm) : Bool := ss.any fun s => lies s f
structure Pk (k : Nat) (ss : List Fm) : Prop where
  f : Fm.fews ss = true
  o : Fm.oks ss = true
  l : ss.length ≤ 1000
  d : Fm.dps ss ≤ 50
  k : Fm.dps ss + 2 ≤ k
  p : ∀ s ∈ ss, isop s = false
theorem Pk.up {j k : Nat} {ss : List Fm} (h : Pk j ss) (l : j ≤ k) : Pk k ss := ⟨h.f, h.o, h.l, h.d, Nat.le_trans h.k l, h.p⟩
mutual
def cutd (ss : List Fm) : Fm → Fm
  | .op => .op
  | .nd s ps => if fits ss (.nd s ps) then .op else .nd s (cutds ss ps)
def cutds (ss : List Fm) : List Fm → List Fm
  | [] => []
  | p :: ps => cutd ss p :: cutds ss ps
end
theorem cutds_map (ss : List Fm) : ∀ ps : List Fm, cutds ss ps = ps.map (cutd ss)
  | [] => rfl
  | p :: ps => by simp only [cutds, List.map_cons, cutds_map ss ps]
theorem cutds_len (ss : List Fm) (ps : List Fm) : (cutds ss ps).length = ps.length := by rw [cutds_map, List.length_map]
mutual
theorem cutd_keep (ss : List Fm) : ∀ f : Fm, (f.few = true → (cutd ss f).few = true) ∧ (f.ok = true → (cutd ss f).ok = true) ∧ (f.fine = true → (cutd ss f).fine = true) ∧ (cutd ss f).dp ≤ f.dp ∧ (cutd ss f).sz ≤ f.sz
  | .op => by simp [cutd]
  | .nd s ps => by
    have h := cutds_keep ss ps
    have l := cutds_len ss ps
    simp only [cutd]
    by_cases c : fits ss (.nd s ps) = true
    · rw [if_pos c]
      refine ⟨fun _ => rfl, fun _ => rfl, fun _ => rfl, by simp [Fm.dp], by simp [Fm.sz]⟩
    · rw [if_neg c]
      refine ⟨fun z => ?_, fun z => ?_, fun z => ?_, ?_, ?_⟩
      · have z : ps.length ≤ 1000 ∧ Fm.fews ps = true := by simpa [Fm.few] using z
        simp [Fm.few, l, z.1, h.1 z.2]
      · have z : PyData.strOk s = true ∧ Fm.oks ps = true := by simpa [Fm.ok] using z
        simp [Fm.ok, z.1, h.2.1 z.2]
      · have z : s ∈ names ∧ ps.length ≤ 3 ∧ Fm.fines ps = true := by simpa [Fm.fine] using z
        simp [Fm.fine, l, z.1, z.2.1, h.2.2.1 z.2.2]
      · simp only [Fm.dp]; omega
      · simp only [Fm.sz]; omega
theorem cutds_keep (ss : List Fm) : ∀ ps : List Fm, (Fm.fews ps = true → Fm.fews (cutds ss ps) = true) ∧ (Fm.oks ps = true → Fm.oks (cutds ss ps) = true) ∧ (Fm.fines ps = true → Fm.fines (cutds ss ps) = true) ∧ Fm.dps (cutds ss ps) ≤ Fm.dps ps ∧ Fm.szs (cutds ss ps) ≤ Fm.szs ps
  | [] => by simp [cutds]
  | p :: ps => by
    have a := cutd_keep ss p
    have b := cutds_keep ss ps
    simp only [cutds, Fm.fews, Fm.oks, Fm.fines, Fm.dps, Fm.szs, Bool.and_eq_true]
    exact ⟨fun z => ⟨a.1 z.1, b.1 z.2⟩, fun z => ⟨a.2.1 z.1, b.2.1 z.2⟩, fun z => ⟨a.2.2.1 z.1, b.2.2.1 z.2⟩, by omega, by omega⟩
end
structure Ff (k : Nat) (f : Fm) : Prop where
  few : f.few = true
  ok : f.ok = true
  d : f.dp ≤ 900
  z : f.sz ≤ 1000000
  k : f.dp + 3 ≤ k
theorem Ff.up {j k : Nat} {f : Fm} (h : Ff j f) (l : j ≤ k) : Ff k f := ⟨h.few, h.ok, h.d, h.z, Nat.le_trans h.k l⟩
theorem Ff.cut {k : Nat} {f : Fm} (h : Ff k f) (ss : List Fm) : Ff k (cutd ss f) := by
  have c := cutd_keep ss f
  have := h.d; have := h.z; have := h.k
  exact ⟨c.1 h.few, c.2.1 h.ok, by omega, by omega, by omega⟩
end Kx
set_option linter.all false
set_option maxRecDepth 100000
set_option maxHeartbeats 4000000
namespace Kx
open PySem Q
end Kx
set_option linter.all false
set_option maxRecDepth 100000
set_option maxHeartbeats 4000000
namespace Kx
open PySem Q

end Kx
set_option linter.all false
set_option maxRecDepth 100000
set_option maxHeartbeats 4000000
namespace Kx
open PySem Q

structure Nv (n : Nat) (d : D) : Prop where
  nc : nice d = true
  wd : wide d = true
  dd : D.dep d ≤ n
theorem Nv.up {n m : Nat} {d : D} (h : Nv n d) (l : n ≤ m) : Nv m d := ⟨h.nc, h.wd, Nat.le_trans h.dd l⟩
theorem nv_all {n : Nat} : ∀ {ds : List D}, (∀ d ∈ ds, Nv n d) → nices ds = true ∧ wides ds = true ∧ D.deps ds ≤ n
  | [], _ => ⟨rfl, rfl, Nat.zero_le _⟩
  | d :: ds, h => by
    obtain ⟨a, b, c⟩ := nv_all (ds := ds) fun e he => h e (List.mem_cons_of_mem _ he)
    have hd := h d List.mem_cons_self
    refine ⟨by simp [nices, hd.nc, a], by simp [wides, hd.wd, b], ?_⟩
    have := hd.dd
    simp only [D.deps]; omega
theorem nv_lst {n : Nat} {ds : List D} (h : ∀ d ∈ ds, Nv n d) (l : ds.length ≤ 1000000) : Nv (n + 1) (.lst ds) := by
  obtain ⟨a, b, c⟩ := nv_all h
  exact ⟨by simpa [nice] using a, by simp [wide, b]; omega, by simp only [D.dep]; omega⟩
theorem nv_tup {n : Nat} {ds : List D} (h : ∀ d ∈ ds, Nv n d) (l : ds.length ≤ 1000000) : Nv (n + 1) (.tup ds) := by
  obtain ⟨a, b, c⟩ := nv_all h
  exact ⟨by simpa [nice] using a, by simp [wide, b]; omega, by simp only [D.dep]; omega⟩
theorem same2 (k : Nat) {n : Nat} {d e : D} (μ : Mu) (h : Nv n d) (hk : n + 1 ≤ k) (q : d = e) : run k 17 [d, e] μ = .ok (.val (.bl true)) μ := by
  subst q
  exact same_ok k d μ (by have := h.dd; omega) h.nc h.wd
structure Sp (ss : List Fm) : Prop where
  f : Fm.fines ss = true
  l : ss.length ≤ 20
  d : Fm.dps ss ≤ 5
  p : ∀ s ∈ ss, isop s = false
  a : ∀ s ∈ ss, s.avo = true
end Kx
set_option linter.all false
set_option maxRecDepth 100000
set_option maxHeartbeats 4000000
namespace Kx
open PySem Q
end Kx
set_option linter.all false
set_option maxRecDepth 100000
set_option maxHeartbeats 4000000
namespace Kx
open PySem Q
def tk (ss : List Fm) : Fm → List Nat → Prop
  | f, [] => (isop f || fits ss f) = true
  | .op, _ :: _ => False
  | .nd s ps, i :: l => fits ss (.nd s ps) = false ∧ ∃ p, ps[i]? = some p ∧ tk ss p l
end Kx
set_option linter.all false
set_option maxRecDepth 100000
set_option maxHeartbeats 4000000
namespace Kx
open PySem Q
end Kx
set_option linter.all false
set_option maxRecDepth 100000
set_option maxHeartbeats 4000000
namespace Kx
open PySem Q

end Kx
set_option linter.all false
set_option maxRecDepth 100000
set_option maxHeartbeats 4000000
namespace Kx
open PySem Q

end Kx
set_option linter.all false
set_option maxRecDepth 100000
set_option maxHeartbeats 2000000
namespace Kx
open PySem Q

end Kx
set_option linter.all false
set_option maxRecDepth 100000
set_option maxHeartbeats 4000000
namespace Kx
open PySem Q

end Kx
set_option linter.all false
set_option maxRecDepth 100000
set_option maxHeartbeats 4000000
namespace Kx
open PySem Q

end Kx
set_option linter.all false
set_option maxRecDepth 100000
set_option maxHeartbeats 4000000
namespace Kx
open PySem Q
end Kx
set_option linter.all false
set_option maxRecDepth 100000
set_option maxHeartbeats 4000000
namespace Kx
open PySem Q

end Kx
set_option linter.all false
set_option maxRecDepth 100000
set_option maxHeartbeats 4000000
namespace Kx
open PySem Q
mutual
theorem dp_szV : ∀ f : Fm, f.dp ≤ f.sz
  | .op => by simp [Fm.dp]
  | .nd s ps => by have := dps_szsV ps; simp only [Fm.dp, Fm.sz]; omega
theorem dps_szsV : ∀ ps : List Fm, Fm.dps ps ≤ Fm.szs ps
  | [] => by simp [Fm.dps]
  | p :: ps => by have := dp_szV p; have := dps_szsV ps; simp only [Fm.dps, Fm.szs]; omega
end
abbrev Trp := List (List Nat × Fm)
structure Gw (f : Fm) : Prop where
  few : f.few = true
  ok : f.ok = true
  z : f.sz ≤ 36
theorem Gw.d {f : Fm} (h : Gw f) : f.dp ≤ 36 := Nat.le_trans (dp_szV f) h.z
def lastF : Fm → Trp → Fm
  | f, [] => f
  | f, c :: r => lastF (putF f c.1 c.2) r
def Cok (ss : List Fm) : Fm → Trp → Prop
  | f, [] => Gw f
  | f, c :: r => Gw f ∧ (∃ g, pt c.1 f = some g ∧ (isop g || fits ss g) = true) ∧ (c.2.few = true ∧ c.2.ok = true ∧ c.2.dp ≤ 4 ∧ ∀ k μ, 6 ≤ k → run k 2 [c.2.d false] μ = .ok (.val (.bl true)) μ) ∧ Cok ss (putF f c.1 c.2) r
theorem Cok.gd {ss : List Fm} {f : Fm} {t : Trp} (h : Cok ss f t) : Gw f := by
  cases t with
  | nil => exact h
  | cons c r => exact h.1
theorem Cok.app {ss : List Fm} {c : List Nat × Fm} : ∀ (t : Trp) (f : Fm), Cok ss f t → (∃ g, pt c.1 (lastF f t) = some g ∧ (isop g || fits ss g) = true) → (c.2.few = true ∧ c.2.ok = true ∧ c.2.dp ≤ 4 ∧ ∀ k μ, 6 ≤ k → run k 2 [c.2.d false] μ = .ok (.val (.bl true)) μ) → Gw (putF (lastF f t) c.1 c.2) → Cok ss f (t ++ [c])
  | [], f, h, h1, h2, h3 => ⟨h, h1, h2, h3⟩
  | d :: r, f, h, h1, h2, h3 => ⟨h.1, h.2.1, h.2.2.1, Cok.app r _ h.2.2.2 h1 h2 h3⟩
end Kx
set_option linter.all false
set_option maxRecDepth 100000
set_option maxHeartbeats 4000000
namespace Kx
open PySem Q

end Kx
set_option linter.all false
set_option maxRecDepth 100000
set_option maxHeartbeats 4000000
namespace Kx
open PySem Q

theorem Sp.gd {ss : List Fm} (h : Sp ss) (z : ∀ s ∈ ss, s.sz ≤ 30) : Gd ss := ⟨h.f, by have := h.l; omega, by have := h.d; omega, z, fun t ht => ⟨(avo_noE t (h.a t ht)).1, h.p t ht⟩⟩
end Kx
set_option linter.all false
set_option maxRecDepth 100000
set_option maxHeartbeats 1000000
namespace Ev
open PySem Q
variable {env env' : En} {μ μ1 : Mu} {fa : FE} {fr : FA} {ds : List D} {d : D} {n : Nat} {r : RunF} {e : Exn} {f g : FS} {R : SRes}
end Ev
namespace Kx
open PySem Q

def plq (q : Bool) (l : List Nat) : D := sqd q (l.map fun (n : Nat) => D.int (n : Int))
abbrev MB (b c q : Bool) (f : Fm) (ls : List (List Nat)) (e3 : EV) : En := [.val (f.d b), .val (sqd c (ls.map (plq q))), .val (.tup ((spots f).map pl)), e3]
end Kx
set_option linter.all false
namespace Ev
open PySem Q
variable {env env' : En} {μ μ1 μ2 μ3 : Mu} {fa fb fe : FE} {fr : FA} {ft ft' : FT} {d d' : D} {ds es xs : List D} {x y z : RV} {n i j : Nat} {a b c : Bool} {r : RunF} {v : EV} {R : SRes} {f g k : FS} {p q s : Int}
theorem intsOf_map (is : List Int) : intsOf (is.map D.int) = some is := by
  induction is with
  | nil => rfl
  | cons i is ih => simp [intsOf, ih]
end Ev
namespace Kx
open PySem Q
end Kx
set_option linter.all false
namespace Kx
open PySem Q
theorem nv_int (n : Nat) (i : Int) : Nv n (.int i) := ⟨rfl, rfl, Nat.zero_le _⟩
theorem nv_b (n : Nat) (b : Bool) : Nv n (.bl b) := ⟨rfl, rfl, Nat.zero_le _⟩
end Kx
set_option linter.all false
set_option maxRecDepth 100000
set_option maxHeartbeats 1000000
namespace Kx
open PySem Q
def er00 (n : Int) (ts : List D) : List D := [.exc "BadLine" ["number"] [.int n], .exc "CanNot" [] [], .exc "NoCell" ["cell"] [.tup ts], .exc "NoNumber" ["number"] [.int n], .exc "NoPlace" ["place"] [.tup ts], .exc "NothingDone" [] [], .exc "TooMany" [] [], .exc "Unfit" [] []]
def val00 : List D := [.bl false, .bl true, .bl false, .bl false, .bl false, .bl false, .bl false, .bl true]
def loo00 : List D := [.bl true, .bl false, .bl false, .bl false, .bl false, .bl false, .bl false, .bl true]
def und00 (i : Nat) : List D := if 2 ≤ i ∧ i ≤ 5 then loo00 else val00
def whi00 (i : Nat) : List D := (List.range 8).map fun j => .bl (decide (j = i))
theorem und_ok00 (k : Nat) (n : Int) (ts : List D) (μ : Mu) : ∀ (i : Nat) (e : D), (er00 n ts)[i]? = some e → run7 (k+1) 518 [e] μ = .ok (.own (und00 i)) μ
  | 0, _, h => by cases h; rfl
  | 1, _, h => by cases h; rfl
  | 2, _, h => by cases h; rfl
  | 3, _, h => by cases h; rfl
  | 4, _, h => by cases h; rfl
  | 5, _, h => by cases h; rfl
  | 6, _, h => by cases h; rfl
  | 7, _, h => by cases h; rfl
  | i + 8, _, h => by cases h
theorem whi_ok00 (k : Nat) (n : Int) (ts : List D) (μ : Mu) : ∀ (i : Nat) (e : D), (er00 n ts)[i]? = some e → run7 (k+1) 519 [e] μ = .ok (.own (whi00 i)) μ
  | 0, _, h => by cases h; rfl
  | 1, _, h => by cases h; rfl
  | 2, _, h => by cases h; rfl
  | 3, _, h => by cases h; rfl
  | 4, _, h => by cases h; rfl
  | 5, _, h => by cases h; rfl
  | 6, _, h => by cases h; rfl
  | 7, _, h => by cases h; rfl
  | i + 8, _, h => by cases h
def row00 (i : Nat) : List D := (List.range i).flatMap fun j => [.lst (und00 j), .lst (whi00 j)]
def got00 (n : Int) (ts : List D) : List D := [.lst [.int n, .tup ts, .int n, .tup ts], .lst [.int n, .tup ts, .int n, .tup ts]]
abbrev E00 (n : Int) (ts : List D) (a b : List D) (x y : EV) : En := [.val (.int n), .val (.tup ts), .val (.lst val00), .val (.lst loo00), .val (.lst (er00 n ts)), .own a, .val (.lst b), x, y, .un]
abbrev bd00 (r r7 : Nat → RunF) : FS := (fSeq (fSet 5 (fMo (fB gCat (fVar 5) (fLst (fCons (fFnN 1 (r7 518) (fCons (fVar 8) fNil)) (fCons (fFnN 1 (r7 519) (fCons (fVar 8) fNil)) fNil))))))
    (fSet 6 (fMv (fB gCat (fVar 6) (fLst (fCons (fIf (fTB (fCh (cmpI .LtE) (cmpI .LtE) (fC (.int 2)) (fVar 7) (fC (.int 5)))) (fVar 3) (fVar 2)) (fCons (fLc (fRng1 (fC (.int 8))) (.nm 9) fYes (fB gEq (fVar 9) (fVar 7)) [9]) fNil)))))))
abbrev du00 : FE := (fLst (fCons (fIf (fTB (fCh (cmpI .LtE) (cmpI .LtE) (fC (.int 2)) (fVar 7) (fC (.int 5)))) (fVar 3) (fVar 2)) (fCons (fLc (fRng1 (fC (.int 8))) (.nm 9) fYes (fB gEq (fVar 9) (fVar 7)) [9]) fNil)))
theorem du_ok00 (n : Int) (ts : List D) (μ : Mu) (a b : List D) (y : EV) : ∀ i : Nat, i < 8 → du00 (E00 n ts a b (.val (.int (i : Int))) y) μ = .ok (.val (.lst [.lst (und00 i), .lst (whi00 i)])) μ
  | 0, _ => rfl
  | 1, _ => rfl
  | 2, _ => rfl
  | 3, _ => rfl
  | 4, _ => rfl
  | 5, _ => rfl
  | 6, _ => rfl
  | 7, _ => rfl
  | i + 8, h => absurd h (by omega)
theorem bd_ok00 (k : Nat) (n : Int) (ts : List D) (μ : Mu) (a b : List D) (i : Nat) (hi : i < 8) (e : D) (he : (er00 n ts)[i]? = some e) (la : a.length ≤ 100) (lb : b.length ≤ 100) :
    bd00 (run (k+1)) (run7 (k+1)) (E00 n ts a b (.val (.int (i : Int))) (.val e)) μ = .nxt (E00 n ts (a ++ [.lst (und00 i), .lst (whi00 i)]) (b ++ [.lst (und00 i), .lst (whi00 i)]) (.val (.int (i : Int))) (.val e)) μ := by
  refine Ev.seq (env' := E00 n ts (a ++ [.lst (und00 i), .lst (whi00 i)]) b (.val (.int (i : Int))) (.val e)) (μ1 := μ) (Ev.setC (Ev.mo (Ev.b2 (Ev.vO rfl) (Ev.lst (Ev.cons (Ev.fnN (Ev.cons (Ev.vV rfl) Ev.nil) (und_ok00 k n ts μ i e he) rfl) (Ev.cons (Ev.fnN (Ev.cons (Ev.vV rfl) Ev.nil) (whi_ok00 k n ts μ i e he) rfl) Ev.nil)) (by simp)) (Ev.gCatE (ds := a) (es := [.lst (und00 i), .lst (whi00 i)]) rfl rfl (by simp; omega)))) rfl) ?_
  exact Ev.setC (Ev.mv (Ev.b2 (Ev.vV rfl) (du_ok00 n ts μ _ b _ i hi) (Ev.gCatE (ds := b) (es := [.lst (und00 i), .lst (whi00 i)]) rfl rfl (by simp; omega)))) rfl
theorem lp_ok00 (k : Nat) (n : Int) (ts : List D) (μ : Mu) : ∀ (m i : Nat) (a b : List D) (x y : EV), i + m = 8 → a.length ≤ 2 + 2 * i → b.length ≤ 2 + 2 * i →
    ∃ x' y', loop (.tp [.nm 7, .nm 8]) (bd00 (run (k+1)) (run7 (k+1))) (enumD (i : Int) ((er00 n ts).drop i)) (E00 n ts a b x y) μ = .nxt (E00 n ts (a ++ (List.range' i m).flatMap fun j => [.lst (und00 j), .lst (whi00 j)]) (b ++ (List.range' i m).flatMap fun j => [.lst (und00 j), .lst (whi00 j)]) x' y') μ
  | 0, i, a, b, x, y, h, _, _ => by
    obtain rfl : i = 8 := by omega
    exact ⟨x, y, by simp [er00, enumD, loop]⟩
  | m + 1, i, a, b, x, y, h, la, lb => by
    have hi : i < (er00 n ts).length := by simp [er00]; omega
    obtain ⟨x', y', ih⟩ := lp_ok00 k n ts μ m (i + 1) (a ++ [.lst (und00 i), .lst (whi00 i)]) (b ++ [.lst (und00 i), .lst (whi00 i)]) (.val (.int (i : Int))) (.val (er00 n ts)[i]) (by omega) (by simp; omega) (by simp; omega)
    refine ⟨x', y', ?_⟩
    rw [List.drop_eq_getElem_cons hi]
    have st := bd_ok00 k n ts μ a b i (by omega) _ (List.getElem?_eq_getElem hi) (by omega) (by omega)
    have tb : Tg.bind (.tp [.nm 7, .nm 8]) (.tup [.int (i : Int), (er00 n ts)[i]]) (E00 n ts a b x y) = some (E00 n ts a b (.val (.int (i : Int))) (.val (er00 n ts)[i])) := rfl
    have e1 : (i : Int) + 1 = ((i + 1 : Nat) : Int) := by omega
    show loop (.tp [.nm 7, .nm 8]) (bd00 (run (k+1)) (run7 (k+1))) (.tup [.int (i : Int), (er00 n ts)[i]] :: enumD ((i : Int) + 1) ((er00 n ts).drop (i + 1))) (E00 n ts a b x y) μ = _
    rw [e1]
    refine Ev.loopN tb st (ih.trans ?_)
    simp [List.range'_succ, List.append_assoc]
theorem nv_er00 (n : Int) (ts : List Int) (h : ts.length ≤ 100) : Nv 3 (.lst (got00 n (ts.map .int) ++ row00 8)) := nv_lst (n := 2) (fun d hd => by
  have hT : Nv 1 (.tup (ts.map D.int)) := nv_tup (n := 0) (fun d hd => by
    obtain ⟨i, _, rfl⟩ := List.mem_map.mp hd
    exact nv_int _ _) (by rw [List.length_map]; omega)
  rcases List.mem_append.mp hd with hd | hd
  · simp only [got00, List.mem_cons, List.not_mem_nil, or_false, or_self] at hd
    subst hd
    refine nv_lst (n := 1) (fun d hd => ?_) (by simp)
    simp only [List.mem_cons, List.not_mem_nil, or_false] at hd
    rcases hd with rfl | rfl | rfl | rfl
    · exact nv_int _ _
    · exact hT
    · exact nv_int _ _
    · exact hT
  · simp only [row00, List.mem_flatMap, List.mem_range] at hd
    obtain ⟨j, hj, hd⟩ := hd
    simp only [List.mem_cons, List.not_mem_nil, or_false] at hd
    have hb : ∀ (l : List D), l.length ≤ 1000 → (∀ d ∈ l, ∃ b, d = .bl b) → Nv 2 (.lst l) := fun l l1 l2 => nv_lst (n := 1) (fun d hd => by
      obtain ⟨b, rfl⟩ := l2 d hd
      exact nv_b _ _) (by omega)
    rcases hd with rfl | rfl
    · unfold und00
      split
      · exact hb _ (by simp [loo00]) (by simp [loo00])
      · exact hb _ (by simp [val00]) (by simp [val00])
    · refine hb _ (by simp [whi00]) fun d hd => ?_
      obtain ⟨j, _, rfl⟩ := List.mem_map.mp hd
      exact ⟨_, rfl⟩) (by simp [got00, row00, List.range_succ])
theorem made_ok00 (k : Nat) (n : Int) (ts : List Int) (hl : ts.length ≤ 100) (hk : 4 ≤ k) (μ : Mu) : run7 (k+2) 520 [.int n, .tup (ts.map .int)] μ = .ok (.val (.bl true)) μ := by
  let T : List D := ts.map .int
  obtain ⟨x', y', L⟩ := lp_ok00 k n T μ 8 0 (got00 n T) (got00 n T) .un .un (by omega) (by simp [got00]) (by simp [got00])
  have er : (List.range' 0 8).flatMap (fun j => [D.lst (und00 j), .lst (whi00 j)]) = row00 8 := by rw [row00, List.range_eq_range']
  rw [er] at L
  have S : run (k+1) 17 [.lst (got00 n T ++ row00 8), .lst (got00 n T ++ row00 8)] μ = .ok (.val (.bl true)) μ := same2 (n := 3) (k+1) μ (nv_er00 n ts hl) (by omega) rfl
  show runOf 10 (b520 (run (k+1)) (run7 (k+1))) _ _ = _
  let e0 : En := [.val (.int n), .val (.tup T), .un, .un, .un, .un, .un, .un, .un, .un]
  let e1 : En := [.val (.int n), .val (.tup T), .val (.lst val00), .val (.lst loo00), .un, .un, .un, .un, .un, .un]
  let e2 : En := [.val (.int n), .val (.tup T), .val (.lst val00), .val (.lst loo00), .val (.lst (er00 n T)), .un, .un, .un, .un, .un]
  let e3 : En := [.val (.int n), .val (.tup T), .val (.lst val00), .val (.lst loo00), .val (.lst (er00 n T)), .own [.lst [.int n, .tup T, .int n, .tup T]], .un, .un, .un, .un]
  let e4 : En := [.val (.int n), .val (.tup T), .val (.lst val00), .val (.lst loo00), .val (.lst (er00 n T)), .own (got00 n T), .un, .un, .un, .un]
  refine Ev.runR (env := e0) rfl ?_
  unfold b520
  refine Ev.seq (env' := e1) (μ1 := μ) rfl ?_
  refine Ev.seq (env' := e2) (μ1 := μ) rfl ?_
  refine Ev.seq (env' := e3) (μ1 := μ) rfl ?_
  refine Ev.seq (env' := e4) (μ1 := μ) rfl ?_
  refine Ev.seq (env' := E00 n T (got00 n T) (got00 n T) .un .un) (μ1 := μ) rfl ?_
  refine Ev.seq (env' := E00 n T (got00 n T ++ row00 8) (got00 n T ++ row00 8) x' y') (μ1 := μ) (Ev.for_ (ds := enumD ((0 : Nat) : Int) ((er00 n T).drop 0)) rfl L) ?_
  refine Ev.frz rfl ?_
  exact Ev.retC (Ev.fn (Ev.cons (Ev.vV rfl) (Ev.cons (Ev.vV rfl) Ev.nil)) S rfl) rfl
end Kx
set_option linter.all false
set_option maxRecDepth 100000
set_option maxHeartbeats 4000000
namespace Kx
open PySem Q

end Kx
set_option linter.all false
set_option maxRecDepth 100000
set_option maxHeartbeats 1000000
namespace Kx
open PySem Q
theorem tr_ok00 (k : Nat) (e1 : EV) : ∀ (m i : Nat) (acc : List D) (N : Nat) (μ : Mu), N + m ≤ 1000000000000 → Gn.Bx N μ →
    ∃ (ts : List Int) (μ' : Mu), ts.length = m ∧ lcLoop (.nm 2) fYes (fFn 2 (run (k+1) 12) (fCons (fVar 0) (fCons (fC (.int 5)) fNil))) [.val (.loc 0), e1, .un] (rangeD (i : Int) m) μ acc = .ok (acc ++ ts.map .int) μ' ∧ Gn.Bx (N + m) μ'
  | 0, i, acc, N, μ, _, h => ⟨[], μ, rfl, by simp [rangeD, lcLoop], h⟩
  | m + 1, i, acc, N, μ, hN, h => by
    obtain ⟨r, μ1, e, hr, hb⟩ := take1 k 5 N μ (by omega) (by omega) (by omega) h
    obtain ⟨ts, μ', l, ih, hb2⟩ := tr_ok00 k e1 m (i + 1) (acc ++ [.int (r : Int)]) (N + 1) μ1 (by omega) hb
    refine ⟨(r : Int) :: ts, μ', by simp [l], ?_, by rw [show N + (m + 1) = N + 1 + m from by omega]; exact hb2⟩
    have en : ((i + 1 : Nat) : Int) = (i : Int) + 1 := by omega
    rw [en] at ih
    simp only [rangeD]
    have st : fFn 2 (run (k+1) 12) (fCons (fVar 0) (fCons (fC (.int 5)) fNil)) [.val (.loc 0), e1, .val (.int (i : Int))] μ = .ok (.val (.int (r : Int))) μ1 := Ev.fn (Ev.cons (Ev.vV rfl) (Ev.cons Ev.cC Ev.nil)) e rfl
    rw [Gn.lc_yes (env' := [.val (.loc 0), e1, .val (.int (i : Int))]) rfl st, ih, List.map_cons, List.append_assoc]
    rfl
theorem right_ok00 (k : Nat) (hk : 4 ≤ k) (μ : Mu) (h : Gn.Bx 0 μ) : ∃ μ', run7 (k+3) 521 [.loc 0] μ = .ok (.val (.bl true)) μ' := by
  obtain ⟨r, μ1, e1, l1, h1⟩ := take1 (k+1) 3 0 μ (by omega) (by omega) (by omega) h
  obtain ⟨s, μ2, e2, l2, h2⟩ := take1 (k+1) 1000 (0+1) μ1 (by omega) (by omega) (by omega) h1
  obtain ⟨d, μ3, hd, e3, h3⟩ := of1 k [.int 0, .int 1, .int 7, .int 1000000, .int (s : Int)] (by simp) (by simp) (0+1+1) (by omega) μ2 h2
  obtain ⟨p, rfl, hp⟩ : ∃ p : Int, d = .int p ∧ 0 ≤ p ∧ p ≤ 1000000 := by
    simp only [List.mem_cons, List.not_mem_nil, or_false] at hd
    rcases hd with rfl | rfl | rfl | rfl | rfl
    · exact ⟨_, rfl, by omega, by omega⟩
    · exact ⟨_, rfl, by omega, by omega⟩
    · exact ⟨_, rfl, by omega, by omega⟩
    · exact ⟨_, rfl, by omega, by omega⟩
    · exact ⟨_, rfl, by omega, by omega⟩
  obtain ⟨q, μ4, e4, l4, h4⟩ := take1 (k+1) 4 (0+1+1+1) μ3 (by omega) (by omega) (by omega) h3
  obtain ⟨ts, μ5, lt, e5, h5⟩ := tr_ok00 (k+1) (.val (.int (((r : Int) - 1) * p))) q 0 [] (0+1+1+1+1) μ4 (by omega) h4
  have M := made_ok00 k (((r : Int) - 1) * p) ts (by omega) hk μ5
  refine ⟨μ5, ?_⟩
  show runOf 3 (b521 (run (k+2)) (run7 (k+2))) _ _ = _
  refine Ev.runR (env := [.val (.loc 0), .un, .un]) rfl ?_
  unfold b521
  have mo : mulOk ((r : Int) - 1) p = true := by
    unfold mulOk
    rw [Bool.or_eq_true]
    left
    rw [Bool.and_eq_true, decide_eq_true_eq, decide_eq_true_eq]
    constructor <;> omega
  refine Ev.seq (env' := [.val (.loc 0), .val (.int (((r : Int) - 1) * p)), .un]) (μ1 := μ3) (Ev.setC (Ev.mv (Ev.b2 (Ev.b2 (Ev.fn (Ev.cons (Ev.vV rfl) (Ev.cons Ev.cC Ev.nil)) e1 rfl) Ev.cC Ev.gSubI) (Ev.fn (Ev.cons (Ev.vV rfl) (Ev.cons (Ev.lst (Ev.cons Ev.cC (Ev.cons Ev.cC (Ev.cons Ev.cC (Ev.cons (d := .int 1000000) rfl (Ev.cons (Ev.fn (Ev.cons (Ev.vV rfl) (Ev.cons Ev.cC Ev.nil)) e2 rfl) Ev.nil))))) (by simp)) Ev.nil)) e3 rfl) (Ev.gMulI mo))) rfl) ?_
  refine Ev.retC (Ev.fn (Ev.cons (Ev.vV rfl) (Ev.cons (Ev.call (Ev.rcons (Ev.lc (Ev.rng1 (n := q) (Ev.fn (Ev.cons (Ev.vV rfl) (Ev.cons Ev.cC Ev.nil)) e4 rfl) (by omega)) (by rw [rangeD_len]; omega) e5) Ev.rnil) Ev.tupL) Ev.nil)) M rfl) rfl
theorem top00 {rb rr : RunF} (hbx : ∀ (cs : List Int) (i : Nat), i < cs.length → cs.length ≤ 60 → ∃ ds, rb [.lst (cs.map .int), .int (i : Int)] [] = .ok (.own ds) [] ∧ Gn.Bx 0 [ds]) (hr : ∀ ds, Gn.Bx 0 [ds] → ∃ μ', rr [.loc 0] [ds] = .ok (.val (.bl true)) μ') (cs : List Int) (hl : cs.length ≤ 60) (e0 e1 : EV) : ∀ (m i : Nat) (acc : List D), i + m = cs.length →
    lcLoop (.nm 3) fYes (fBox rr (fFnN 2 rb (fCons (fVar 2) (fCons (fVar 3) fNil)))) [e0, e1, .val (.lst (cs.map .int)), .un] (rangeD (i : Int) m) [] acc = .ok (acc ++ List.replicate m (.bl true)) []
  | 0, i, acc, _ => by simp [rangeD, lcLoop]
  | m + 1, i, acc, h => by
    obtain ⟨ds, eb, hb⟩ := hbx cs i (by omega) hl
    obtain ⟨μ', er⟩ := hr ds hb
    have st : fBox rr (fFnN 2 rb (fCons (fVar 2) (fCons (fVar 3) fNil))) [e0, e1, .val (.lst (cs.map .int)), .val (.int (i : Int))] [] = .ok (.val (.bl true)) [] := by
      have a : fFnN 2 rb (fCons (fVar 2) (fCons (fVar 3) fNil)) [e0, e1, .val (.lst (cs.map .int)), .val (.int (i : Int))] [] = .ok (.val (.lst ds)) [] := Ev.fnN (Ev.cons (Ev.vV rfl) (Ev.cons (Ev.vV rfl) Ev.nil)) eb rfl
      unfold fBox
      rw [a]
      show (match rr [.loc 0] [ds] with | .ok (.val (.bl b)) _ => Res.ok (RV.val (.bl b)) [] | _ => .bad) = _
      rw [er]
    have en : ((i + 1 : Nat) : Int) = (i : Int) + 1 := by omega
    have ih := top00 hbx hr cs hl e0 e1 m (i + 1) (acc ++ [.bl true]) (by omega)
    rw [en] at ih
    simp only [rangeD]
    rw [Gn.lc_yes (env' := [e0, e1, .val (.lst (cs.map .int)), .val (.int (i : Int))]) rfl st, ih, List.append_assoc]
    rfl
theorem law00_true (ns : List Int) (hl : ns.length ≤ 63) (hb : ∀ z ∈ ns, PySem.Builtin.Int.intBits z ≤ 1048576) : Kx.run7 Kx.KK 522 [.frz (ns.map Q.D.int)] [] = .ok (.val (.bl true)) [] := by
  obtain ⟨cs, ec, c1, c2⟩ := Gn.cells_ok 2 (by omega) (by omega) ns hl []
  have ec : run 59 13 [.frz (ns.map .int), .int 2] [] = .ok (.own (cs.map .int)) [] := ec
  have M1 : run7 59 520 [.int 0, .tup []] [] = .ok (.val (.bl true)) [] := made_ok00 57 0 [] (by simp) (by omega) []
  have M2 : run7 59 520 [.int (-1), .tup [.int 0]] [] = .ok (.val (.bl true)) [] := made_ok00 57 (-1) [0] (by simp) (by omega) []
  have M3 : run7 59 520 [.int 1000000, .tup [.int 2, .int 0, .int 1]] [] = .ok (.val (.bl true)) [] := made_ok00 57 1000000 [2, 0, 1] (by simp) (by omega) []
  let x0 : EV := .val (.frz (ns.map .int))
  show runOf 4 (b522 (run 59) (run7 59)) _ _ = _
  refine Ev.runR (env := [x0, .un, .un, .un]) rfl ?_
  unfold b522
  let it : List D := [.tup [.int 0, .tup []], .tup [.int (-1), .tup [.int 0]], .tup [.int 1000000, .tup [.int 2, .int 0, .int 1]]]
  have st : ∀ (p : D) (t : List D), run7 59 520 [p, .tup t] [] = .ok (.val (.bl true)) [] → fFn 2 (run7 59 520) (fCons (fB gIx (fVar 1) (fC (.int 0))) (fCons (fB gIx (fVar 1) (fC (.int 1))) fNil)) [x0, .val (.tup [p, .tup t]), .un, .un] [] = .ok (.val (.bl true)) [] := fun p t e =>
    Ev.fn (Ev.cons (d := p) rfl (Ev.cons (d := .tup t) rfl Ev.nil)) e rfl
  have L1 : lcLoop (.nm 1) fYes (fFn 2 (run7 59 520) (fCons (fB gIx (fVar 1) (fC (.int 0))) (fCons (fB gIx (fVar 1) (fC (.int 1))) fNil))) [x0, .un, .un, .un] it [] [] = .ok [.bl true, .bl true, .bl true] [] := by
    rw [Gn.lc_yes (env' := [x0, .val (.tup [.int 0, .tup []]), .un, .un]) rfl (st _ _ M1), Gn.lc_yes (env' := [x0, .val (.tup [.int (-1), .tup [.int 0]]), .un, .un]) rfl (st _ _ M2), Gn.lc_yes (env' := [x0, .val (.tup [.int 1000000, .tup [.int 2, .int 0, .int 1]]), .un, .un]) rfl (st _ _ M3)]
    rfl
  refine Ev.sif (b := false) (μ1 := []) (Ev.not_ (b := true) (Ev.tT (Ev.call (Ev.rcons (Ev.lc (ds := it) (Ev.anyT rfl) (by simp [it]) L1) Ev.rnil) (Ev.all_ (bs := [true, true, true]) rfl)) rfl)) (fun z => by cases z) fun _ => Ev.snx ?_
  refine Ev.seq (env' := [x0, .un, .val (.lst (cs.map .int)), .un]) (μ1 := []) (Ev.setC (Ev.mv (Ev.fnN (Ev.cons (d := .frz (ns.map .int)) (Ev.vV rfl) (Ev.cons Ev.cC Ev.nil)) ec rfl)) rfl) ?_
  have L := top00 (rb := run7 59 517) (rr := run7 59 521) (fun cs i h h2 => Gn.box_ok 1943000 cs i h (by omega) []) (fun ds h => right_ok00 56 (by omega) [ds] h) cs (by omega) x0 .un cs.length 0 [] (by omega)
  have w : Q.bls (List.replicate cs.length (D.bl true)) = some (List.replicate cs.length true) := by
    have := bls_map (List.replicate cs.length true)
    rw [List.map_replicate] at this
    exact this
  refine Ev.retC (d := .bl ((List.replicate cs.length true).all id)) (Ev.call (Ev.rcons (Ev.lc (Ev.rng1 (n := cs.length) (Ev.call (Ev.rcons (Ev.vV rfl) Ev.rnil) (by rw [Ev.lenL, List.length_map])) (by omega)) (by rw [rangeD_len]; omega) L) Ev.rnil) (by rw [List.nil_append]; exact Ev.all_ w)) ?_
  congr 1
  simp
end Kx
set_option Elab.async false
set_option linter.all false
set_option maxRecDepth 100000
set_option maxHeartbeats 4000000
namespace Kx
open PySem PySem.Spec PyProof.Rows L2 Q
def top (i : Nat) : Stmt := PySem.Challenge.pw_notinvain_k00_errors_made_by_hand.main.body.getD i (.Pass ⟨0, 0, 0, 0⟩)
abbrev s517 : Stmt := top 10 -- _law_box
abbrev s12 : Stmt := top 11 -- _law_take
abbrev s13 : Stmt := top 12 -- _law_cells
abbrev s14 : Stmt := top 13 -- _law_of
abbrev s17 : Stmt := top 14 -- _law_same
abbrev s518 : Stmt := top 15 -- _law_under
abbrev s519 : Stmt := top 16 -- _law_which
abbrev s520 : Stmt := top 17 -- _law_made_right
abbrev s521 : Stmt := top 18 -- _law_right
abbrev s522 : Stmt := top 19 -- law
structure Tp (P : Program) (w : World) (K : PySem.W.Frag) (mg : Str → Option Value) (base : Heap) (C : Nat → Addr) (k : Nat) (r r7 : Nat → RunF) : Prop where
  z_AttributeError : mg "AttributeError" = none
  z_Exception : mg "Exception" = none
  z_IndexError : mg "IndexError" = none
  z_KeyError : mg "KeyError" = none
  z_LookupError : mg "LookupError" = none
  z_RuntimeError : mg "RuntimeError" = none
  z_TypeError : mg "TypeError" = none
  z_ValueError : mg "ValueError" = none
  z_abs : mg "abs" = none
  z_all : mg "all" = none
  z_bool : mg "bool" = none
  z_enumerate : mg "enumerate" = none
  z_int : mg "int" = none
  z_isinstance : mg "isinstance" = none
  z_len : mg "len" = none
  z_list : mg "list" = none
  z_range : mg "range" = none
  z_str : mg "str" = none
  z_tuple : mg "tuple" = none
  z_zip : mg "zip" = none
  x0 : Xc K mg "CanNot" (C 0)
  x2 : Xc K mg "Unfit" (C 2)
  x5 : Xc K mg "NothingDone" (C 5)
  x7 : Xc K mg "TooMany" (C 7)
  y1 : Xf P w K mg base "NoPlace" (C 1) "place"
  y3 : Xf P w K mg base "NoNumber" (C 3) "number"
  y4 : Xf P w K mg base "NoCell" (C 4) "cell"
  y6 : Xf P w K mg base "BadLine" (C 6) "number"
  f1 : XfC K (C 1) ∧ PySem.W.findIn K (.ref (C 1)) "place" = some none
  f3 : XfC K (C 3) ∧ PySem.W.findIn K (.ref (C 3)) "number" = some none
  f4 : XfC K (C 4) ∧ PySem.W.findIn K (.ref (C 4)) "cell" = some none
  f6 : XfC K (C 6) ∧ PySem.W.findIn K (.ref (C 6)) "number" = some none
  n0 : PySem.W.nsIn K mainGlobals "CanNot" = some (some (.ref (C 0)))
  n1 : PySem.W.nsIn K mainGlobals "NoPlace" = some (some (.ref (C 1)))
  n2 : PySem.W.nsIn K mainGlobals "Unfit" = some (some (.ref (C 2)))
  n3 : PySem.W.nsIn K mainGlobals "NoNumber" = some (some (.ref (C 3)))
  n4 : PySem.W.nsIn K mainGlobals "NoCell" = some (some (.ref (C 4)))
  n5 : PySem.W.nsIn K mainGlobals "NothingDone" = some (some (.ref (C 5)))
  n6 : PySem.W.nsIn K mainGlobals "BadLine" = some (some (.ref (C 6)))
  n7 : PySem.W.nsIn K mainGlobals "TooMany" = some (some (.ref (C 7)))
  k1 : XfK P w K mg base "NoPlace" (C 1) "place" "place"
  k3 : XfK P w K mg base "NoNumber" (C 3) "number" "number"
  k4 : XfK P w K mg base "NoCell" (C 4) "cell" "cell"
  k6 : XfK P w K mg base "BadLine" (C 6) "number" "number"
  at_cell : AtE K "cell" ["NoCell"]
  at_number : AtE K "number" ["NoNumber", "BadLine"]
  at_place : AtE K "place" ["NoPlace"]
  is_AttributeError : IsE K (.type "AttributeError") [("CanNot", false), ("NoPlace", false), ("Unfit", false), ("NoNumber", false), ("NoCell", false), ("NothingDone", false), ("BadLine", false), ("TooMany", false)]
  is_BadLine : IsE K (.ref (C 6)) [("CanNot", false), ("NoPlace", false), ("Unfit", false), ("NoNumber", false), ("NoCell", false), ("NothingDone", false), ("BadLine", true), ("TooMany", false)]
  is_CanNot : IsE K (.ref (C 0)) [("CanNot", true), ("NoPlace", false), ("Unfit", false), ("NoNumber", false), ("NoCell", false), ("NothingDone", false), ("BadLine", false), ("TooMany", false)]
  is_Exception : IsE K (.type "Exception") [("CanNot", true), ("NoPlace", true), ("Unfit", true), ("NoNumber", true), ("NoCell", true), ("NothingDone", true), ("BadLine", true), ("TooMany", true)]
  is_IndexError : IsE K (.type "IndexError") [("CanNot", false), ("NoPlace", false), ("Unfit", false), ("NoNumber", false), ("NoCell", false), ("NothingDone", false), ("BadLine", false), ("TooMany", false)]
  is_KeyError : IsE K (.type "KeyError") [("CanNot", false), ("NoPlace", false), ("Unfit", false), ("NoNumber", false), ("NoCell", false), ("NothingDone", false), ("BadLine", false), ("TooMany", false)]
  is_LookupError : IsE K (.type "LookupError") [("CanNot", false), ("NoPlace", true), ("Unfit", false), ("NoNumber", true), ("NoCell", true), ("NothingDone", true), ("BadLine", false), ("TooMany", false)]
  is_NoCell : IsE K (.ref (C 4)) [("CanNot", false), ("NoPlace", false), ("Unfit", false), ("NoNumber", false), ("NoCell", true), ("NothingDone", false), ("BadLine", false), ("TooMany", false)]
  is_NoNumber : IsE K (.ref (C 3)) [("CanNot", false), ("NoPlace", false), ("Unfit", false), ("NoNumber", true), ("NoCell", false), ("NothingDone", false), ("BadLine", false), ("TooMany", false)]
  is_NoPlace : IsE K (.ref (C 1)) [("CanNot", false), ("NoPlace", true), ("Unfit", false), ("NoNumber", false), ("NoCell", false), ("NothingDone", false), ("BadLine", false), ("TooMany", false)]
  is_NothingDone : IsE K (.ref (C 5)) [("CanNot", false), ("NoPlace", false), ("Unfit", false), ("NoNumber", false), ("NoCell", false), ("NothingDone", true), ("BadLine", false), ("TooMany", false)]
  is_RuntimeError : IsE K (.type "RuntimeError") [("CanNot", false), ("NoPlace", false), ("Unfit", false), ("NoNumber", false), ("NoCell", false), ("NothingDone", false), ("BadLine", false), ("TooMany", false)]
  is_TooMany : IsE K (.ref (C 7)) [("CanNot", false), ("NoPlace", false), ("Unfit", false), ("NoNumber", false), ("NoCell", false), ("NothingDone", false), ("BadLine", false), ("TooMany", true)]
  is_TypeError : IsE K (.type "TypeError") [("CanNot", false), ("NoPlace", false), ("Unfit", false), ("NoNumber", false), ("NoCell", false), ("NothingDone", false), ("BadLine", false), ("TooMany", false)]
  is_Unfit : IsE K (.ref (C 2)) [("CanNot", false), ("NoPlace", false), ("Unfit", true), ("NoNumber", false), ("NoCell", false), ("NothingDone", false), ("BadLine", false), ("TooMany", false)]
  is_ValueError : IsE K (.type "ValueError") [("CanNot", true), ("NoPlace", false), ("Unfit", true), ("NoNumber", false), ("NoCell", false), ("NothingDone", false), ("BadLine", true), ("TooMany", true)]
  c517 : Cal P w K mg base C k "_law_box" s517 ["_law_script", "_law_k"] 2 (r7 517)
  c12 : Cal P w K mg base C k "_law_take" s12 ["_law_tin", "_law_below_so"] 2 (r 12)
  c13 : Cal P w K mg base C k "_law_cells" s13 ["_law_script", "_law_most_so"] 2 (r 13)
  c14 : Cal P w K mg base C k "_law_of" s14 ["_law_tin", "_law_goods_so"] 2 (r 14)
  c17 : Cal P w K mg base C k "_law_same" s17 ["_law_got", "_law_due"] 2 (r 17)
  c518 : Cal P w K mg base C k "_law_under" s518 ["_law_error_so"] 1 (r7 518)
  c519 : Cal P w K mg base C k "_law_which" s519 ["_law_error_so"] 1 (r7 519)
  c520 : Cal P w K mg base C k "_law_made_right" s520 ["_law_number_so", "_law_trail_so"] 2 (r7 520)
  c521 : Cal P w K mg base C k "_law_right" s521 ["_law_tin"] 1 (r7 521)
  c522 : Cal P w K mg base C k "law" s522 ["_law_script"] 1 (r7 522)
theorem I1 : InS (clsDef (top 1)) "place" "place" := ⟨rfl, rfl, rfl, rfl, rfl, by decide, rfl, ⟨_, _, _, _, _, _, _, _, _, _, rfl, rfl⟩, rfl, by decide +kernel, rfl, rfl⟩
theorem I3 : InS (clsDef (top 3)) "number" "number" := ⟨rfl, rfl, rfl, rfl, rfl, by decide, rfl, ⟨_, _, _, _, _, _, _, _, _, _, rfl, rfl⟩, rfl, by decide +kernel, rfl, rfl⟩
theorem I4 : InS (clsDef (top 2)) "cell" "cell" := ⟨rfl, rfl, rfl, rfl, rfl, by decide, rfl, ⟨_, _, _, _, _, _, _, _, _, _, rfl, rfl⟩, rfl, by decide +kernel, rfl, rfl⟩
theorem I6 : InS (clsDef (top 5)) "number" "number" := ⟨rfl, rfl, rfl, rfl, rfl, by decide, rfl, ⟨_, _, _, _, _, _, _, _, _, _, rfl, rfl⟩, rfl, by decide +kernel, rfl, rfl⟩
section
variable {P : Program} {w : World} {K : PySem.W.Frag} {mg : Str → Option Value} {base : Heap} {C : Nat → Addr} {k : Nat} {r r7 : Nat → RunF}
theorem S517 : FnScope ["_law_script", "_law_k", "_law_cell_so"] ["_law_script", "_law_k"] (defScope s517) := ⟨rfl, rfl, rfl, by decide +kernel, rfl, by decide +kernel, by decide +kernel⟩
theorem h517 (T : Tp P w K mg base C k r r7) (f : Addr) (cdv : Value) (A : Around) (outer : List Env) (s : Shared) (H : Hp) (E : XK) (L : List Addr) (H0 G0 : Hp) (hr : Room k (A.deeper (envOfC "_law_box" (defScope s517) s.heap.objs.size f cdv))) :
    DSs (cxOf (L2.CX P w) P w K mg base ["_law_script", "_law_k", "_law_cell_so"] "_law_box" (defScope s517) f cdv A outer s H E) ⟨⟨K, w⟩, L, H0, G0, C⟩ (fun cls d _ H => E cls d H) (defBody s517) (b517 r r7) := by
  have hN : (cxOf (L2.CX P w) P w K mg base ["_law_script", "_law_k", "_law_cell_so"] "_law_box" (defScope s517) f cdv A outer s H E).N.Nodup := S517.nd
  exact (dss_cons (ds_set (i := 2) hN (dm_val ((de_if ((dt_lt ((de_v 1)) ((de_len T.z_len ((de_v 0)))))) ((de_at ((de_v 0)) ((de_v 1)))) (de_int)))))
    (dss_one (ds_ret (dm_own ((dn_lst (da_cons ((de_mul ((de_abs T.z_abs ((de_v 2)))) ((de_int1 T.z_int ((de_ge ((de_abs T.z_abs ((de_v 2)))) ((de_pow (de_int) (de_int))))))))) (da_cons ((de_add ((de_add ((de_mod ((de_int1 T.z_int ((de_v 2)))) (de_int))) ((de_mul (de_int) ((de_v 1)))))) (de_int))) (da_cons (de_int) da_nil)))))))))
theorem S12 : FnScope ["_law_tin", "_law_below_so", "_law_drawn", "_law_once_so", "_law_wide_so", "_law_twice_so"] ["_law_tin", "_law_below_so"] (defScope s12) := ⟨rfl, rfl, rfl, by decide +kernel, rfl, by decide +kernel, by decide +kernel⟩
theorem h12 (T : Tp P w K mg base C k r r7) (f : Addr) (cdv : Value) (A : Around) (outer : List Env) (s : Shared) (H : Hp) (E : XK) (L : List Addr) (H0 G0 : Hp) (hr : Room k (A.deeper (envOfC "_law_take" (defScope s12) s.heap.objs.size f cdv))) :
    DSs (cxOf (L2.CX P w) P w K mg base ["_law_tin", "_law_below_so", "_law_drawn", "_law_once_so", "_law_wide_so", "_law_twice_so"] "_law_take" (defScope s12) f cdv A outer s H E) ⟨⟨K, w⟩, L, H0, G0, C⟩ (fun cls d _ H => E cls d H) (defBody s12) (b12 r) := by
  have hN : (cxOf (L2.CX P w) P w K mg base ["_law_tin", "_law_below_so", "_law_drawn", "_law_once_so", "_law_wide_so", "_law_twice_so"] "_law_take" (defScope s12) f cdv A outer s H E).N.Nodup := S12.nd
  exact (dss_cons (ds_if ((dt_gt ((de_at ((de_v 0)) (de_int))) (de_int))) (dss_cons (ds_set (i := 2) hN (dm_val ((de_mod ((de_int1 T.z_int ((de_at ((de_v 0)) (de_int))))) ((de_v 1))))))
    (dss_cons (ds_setIx 0 ((de_div ((de_at ((de_v 0)) (de_int))) ((de_v 1)))) (de_int))
    (dss_one (ds_ret (dm_val ((de_v 2))))))) dss_nil)
    (dss_cons (ds_setIx 0 ((de_add ((de_at ((de_v 0)) (de_int))) (de_int))) (de_int))
    (dss_cons (ds_set (i := 3) hN (dm_val ((de_mod ((de_int1 T.z_int ((de_mul ((de_add ((de_at ((de_v 0)) (de_int))) ((de_mul (de_int) ((de_at ((de_v 0)) (de_int))))))) ((de_add (de_int) ((de_at ((de_v 0)) (de_int))))))))) (de_int)))))
    (dss_cons (ds_set (i := 4) hN (dm_val ((de_add ((de_mod ((de_int1 T.z_int ((de_v 3)))) (de_int))) (de_int)))))
    (dss_cons (ds_set (i := 5) hN (dm_val ((de_mod ((de_int1 T.z_int ((de_mul ((de_add ((de_add ((de_v 3)) ((de_at ((de_v 0)) (de_int))))) ((de_div ((de_at ((de_v 0)) (de_int))) (de_int))))) ((de_v 4)))))) (de_int)))))
    (dss_one (ds_ret (dm_val ((de_mod ((de_int1 T.z_int ((de_div ((de_mod ((de_int1 T.z_int ((de_add ((de_mul ((de_v 5)) (de_int))) ((de_v 3)))))) (de_int))) (de_int))))) ((de_v 1))))))))))))
theorem S13 : FnScope ["_law_script", "_law_most_so", "_law_cells_so", "_law_k", "_law_cell_so", "_law_at_so"] ["_law_script", "_law_most_so"] (defScope s13) := ⟨rfl, rfl, rfl, by decide +kernel, rfl, by decide +kernel, by decide +kernel⟩
theorem h13 (T : Tp P w K mg base C k r r7) (f : Addr) (cdv : Value) (A : Around) (outer : List Env) (s : Shared) (H : Hp) (E : XK) (L : List Addr) (H0 G0 : Hp) (hr : Room k (A.deeper (envOfC "_law_cells" (defScope s13) s.heap.objs.size f cdv))) :
    DSs (cxOf (L2.CX P w) P w K mg base ["_law_script", "_law_most_so", "_law_cells_so", "_law_k", "_law_cell_so", "_law_at_so"] "_law_cells" (defScope s13) f cdv A outer s H E) ⟨⟨K, w⟩, L, H0, G0, C⟩ (fun cls d _ H => E cls d H) (defBody s13) (b13 r) := by
  have hN : (cxOf (L2.CX P w) P w K mg base ["_law_script", "_law_most_so", "_law_cells_so", "_law_k", "_law_cell_so", "_law_at_so"] "_law_cells" (defScope s13) f cdv A outer s H E).N.Nodup := S13.nd
  have hp := passes_of (X := cxOf (L2.CX P w) P w K mg base ["_law_script", "_law_most_so", "_law_cells_so", "_law_k", "_law_cell_so", "_law_at_so"] "_law_cells" (defScope s13) f cdv A outer s H E) rfl
  exact (dss_cons (ds_set (i := 2) hN (dm_own ((dn_or ((dn_list T.z_list ((de_slice ((de_v 0)) do_none (do_some ((de_v 1))))))) ((dn_lst (da_cons (de_int) da_nil)))))))
    (dss_cons (ds_for hp rfl (di_en T.z_enumerate ((de_slice ((de_v 0)) (do_some ((de_v 1))) (do_some (de_int))))) (dg_tup rfl (dgs_cons (dg_name 3 hN) (dgs_cons (dg_name 4 hN) dgs_nil))) (dss_cons (ds_set (i := 5) hN (dm_val ((de_mod ((de_int1 T.z_int ((de_v 3)))) ((de_v 1))))))
    (dss_one (ds_setIx 2 ((de_add ((de_at ((de_v 2)) ((de_v 5)))) ((de_mul ((de_v 4)) ((de_add ((de_v 3)) (de_int))))))) ((de_v 5))))))
    (dss_one (ds_retO 2))))
theorem S14 : FnScope ["_law_tin", "_law_goods_so"] ["_law_tin", "_law_goods_so"] (defScope s14) := ⟨rfl, rfl, rfl, by decide +kernel, rfl, by decide +kernel, by decide +kernel⟩
theorem h14 (T : Tp P w K mg base C k r r7) (f : Addr) (cdv : Value) (A : Around) (outer : List Env) (s : Shared) (H : Hp) (E : XK) (L : List Addr) (H0 G0 : Hp) (hr : Room k (A.deeper (envOfC "_law_of" (defScope s14) s.heap.objs.size f cdv))) :
    DSs (cxOf (L2.CX P w) P w K mg base ["_law_tin", "_law_goods_so"] "_law_of" (defScope s14) f cdv A outer s H E) ⟨⟨K, w⟩, L, H0, G0, C⟩ (fun cls d _ H => E cls d H) (defBody s14) (b14 r) := by
  have hN : (cxOf (L2.CX P w) P w K mg base ["_law_tin", "_law_goods_so"] "_law_of" (defScope s14) f cdv A outer s H E).N.Nodup := S14.nd
  have tX : Takes (cxOf (L2.CX P w) P w K mg base ["_law_tin", "_law_goods_so"] "_law_of" (defScope s14) f cdv A outer s H E) (fun cls d _ H => E cls d H) := takes_of rfl rfl rfl rfl
  exact (dss_one (ds_ret (dm_val ((de_at ((de_v 1)) ((de_cal T.c12 hr tX (da_cons ((de_v 0)) (da_cons ((de_len T.z_len ((de_v 1)))) da_nil)))))))))
theorem S17 : FnScope ["_law_got", "_law_due", "_law_mine", "_law_its"] ["_law_got", "_law_due"] (defScope s17) := ⟨rfl, rfl, rfl, by decide +kernel, rfl, by decide +kernel, by decide +kernel⟩
theorem h17 (T : Tp P w K mg base C k r r7) (f : Addr) (cdv : Value) (A : Around) (outer : List Env) (s : Shared) (H : Hp) (E : XK) (L : List Addr) (H0 G0 : Hp) (hr : Room k (A.deeper (envOfC "_law_same" (defScope s17) s.heap.objs.size f cdv))) :
    DSs (cxOf (L2.CX P w) P w K mg base ["_law_got", "_law_due", "_law_mine", "_law_its"] "_law_same" (defScope s17) f cdv A outer s H E) ⟨⟨K, w⟩, L, H0, G0, C⟩ (fun cls d _ H => E cls d H) (defBody s17) (b17 r) := by
  have hN : (cxOf (L2.CX P w) P w K mg base ["_law_got", "_law_due", "_law_mine", "_law_its"] "_law_same" (defScope s17) f cdv A outer s H E).N.Nodup := S17.nd
  have hu : (A.deeper (envOfC "_law_same" (defScope s17) s.heap.objs.size f cdv)).units + 64 < cLine := hr.units
  exact (dss_cons (ds_if ((dt_truth ((de_isiT T.z_isinstance (pa_tyc T.z_list (by decide +kernel) (pa_tyc T.z_tuple (by decide +kernel) pa_ty0)) ((de_v 1)))))) (dss_cons (ds_if ((dt_w (dw_or ((dt_ne hu ((de_isi T.z_isinstance T.z_list (by decide +kernel) ((de_v 0)))) ((de_isi T.z_isinstance T.z_list (by decide +kernel) ((de_v 1)))))) (dw_or1 ((dt_ne hu ((de_isi T.z_isinstance T.z_tuple (by decide +kernel) ((de_v 0)))) ((de_isi T.z_isinstance T.z_tuple (by decide +kernel) ((de_v 1)))))))))) (dss_one (ds_ret (dm_val (de_bl)))) dss_nil)
    (dss_one (ds_ret (dm_val ((de_and ((de_eq hu ((de_len T.z_len ((de_v 0)))) ((de_len T.z_len ((de_v 1)))))) (de_one ((de_all rfl T.z_all (DN.de ((dn_lc rfl hN (di_c (di_zp T.z_zip ((de_v 0)) ((de_v 1)))) (blkOk_by (own := [("_law_mine", 2), ("_law_its", 3)]) (by rfl)) (fun _ _ _ _ _ => (dg_tup rfl (dgs_cons (dg_name 2 hN) (dgs_cons (dg_name 3 hN) dgs_nil)))) (fun _ _ _ _ _ => dts_nil) (fun _ _ _ _ _ => (de_cal T.c17 hr tk0 (da_cons ((de_v 2)) (da_cons ((de_v 3)) da_nil)))))))))))))))) dss_nil)
    (dss_cons (ds_if ((dt_w (dw_or ((dt_isN ((de_v 1)) (de_non))) (dw_or1 ((dt_truth ((de_isiT T.z_isinstance (pa_tyc T.z_bool (by decide +kernel) (pa_tyc T.z_str (by decide +kernel) pa_ty0)) ((de_v 1)))))))))) (dss_one (ds_ret (dm_val ((de_and ((de_eq hu ((de_v 0)) ((de_v 1)))) (de_and ((de_eq hu ((de_isi T.z_isinstance T.z_bool (by decide +kernel) ((de_v 0)))) ((de_isi T.z_isinstance T.z_bool (by decide +kernel) ((de_v 1)))))) (de_one ((de_eq hu ((de_isN ((de_v 0)) (de_non))) ((de_isN ((de_v 1)) (de_non)))))))))))) dss_nil)
    (dss_one (ds_ret (dm_val ((de_and ((de_isi T.z_isinstance T.z_int (by decide +kernel) ((de_v 0)))) (de_and ((de_not ((de_isi T.z_isinstance T.z_bool (by decide +kernel) ((de_v 0)))))) (de_one ((de_eq hu ((de_v 0)) ((de_v 1)))))))))))))
theorem S518 : FnScope ["_law_error_so", "_law_near", "_law_far"] ["_law_error_so"] (defScope s518) := ⟨rfl, rfl, rfl, by decide +kernel, rfl, by decide +kernel, by decide +kernel⟩
theorem h518 (T : Tp P w K mg base C k r r7) (f : Addr) (cdv : Value) (A : Around) (outer : List Env) (s : Shared) (H : Hp) (E : XK) (L : List Addr) (H0 G0 : Hp) (hr : Room k (A.deeper (envOfC "_law_under" (defScope s518) s.heap.objs.size f cdv))) :
    DSs (cxOf (L2.CX P w) P w K mg base ["_law_error_so", "_law_near", "_law_far"] "_law_under" (defScope s518) f cdv A outer s H E) ⟨⟨K, w⟩, L, H0, G0, C⟩ (fun cls d _ H => E cls d H) (defBody s518) (b518 r r7) := by
  have hN : (cxOf (L2.CX P w) P w K mg base ["_law_error_so", "_law_near", "_law_far"] "_law_under" (defScope s518) f cdv A outer s H E).N.Nodup := S518.nd
  exact (dss_cons (ds_set (i := 1) hN (dm_val (DN.de ((dn_lst (da_cons ((de_isET (tb := [("CanNot", false), ("NoPlace", true), ("Unfit", false), ("NoNumber", true), ("NoCell", true), ("NothingDone", true), ("BadLine", false), ("TooMany", false)]) T.is_LookupError T.z_isinstance T.z_LookupError (by decide +kernel) ((de_v 0)))) (da_cons ((de_isET (tb := [("CanNot", true), ("NoPlace", false), ("Unfit", true), ("NoNumber", false), ("NoCell", false), ("NothingDone", false), ("BadLine", true), ("TooMany", true)]) T.is_ValueError T.z_isinstance T.z_ValueError (by decide +kernel) ((de_v 0)))) (da_cons ((de_isET (tb := [("CanNot", false), ("NoPlace", false), ("Unfit", false), ("NoNumber", false), ("NoCell", false), ("NothingDone", false), ("BadLine", false), ("TooMany", false)]) T.is_TypeError T.z_isinstance T.z_TypeError (by decide +kernel) ((de_v 0)))) da_nil))))))))
    (dss_cons (ds_set (i := 2) hN (dm_val (DN.de ((dn_lst (da_cons ((de_isET (tb := [("CanNot", false), ("NoPlace", false), ("Unfit", false), ("NoNumber", false), ("NoCell", false), ("NothingDone", false), ("BadLine", false), ("TooMany", false)]) T.is_KeyError T.z_isinstance T.z_KeyError (by decide +kernel) ((de_v 0)))) (da_cons ((de_isET (tb := [("CanNot", false), ("NoPlace", false), ("Unfit", false), ("NoNumber", false), ("NoCell", false), ("NothingDone", false), ("BadLine", false), ("TooMany", false)]) T.is_IndexError T.z_isinstance T.z_IndexError (by decide +kernel) ((de_v 0)))) da_nil)))))))
    (dss_one (ds_ret (dm_own ((dn_cat (DN.de ((dn_cat ((de_v 1)) ((de_v 2))))) (DN.de ((dn_lst (da_cons ((de_isET (tb := [("CanNot", false), ("NoPlace", false), ("Unfit", false), ("NoNumber", false), ("NoCell", false), ("NothingDone", false), ("BadLine", false), ("TooMany", false)]) T.is_RuntimeError T.z_isinstance T.z_RuntimeError (by decide +kernel) ((de_v 0)))) (da_cons ((de_isET (tb := [("CanNot", false), ("NoPlace", false), ("Unfit", false), ("NoNumber", false), ("NoCell", false), ("NothingDone", false), ("BadLine", false), ("TooMany", false)]) T.is_AttributeError T.z_isinstance T.z_AttributeError (by decide +kernel) ((de_v 0)))) (da_cons ((de_isET (tb := [("CanNot", true), ("NoPlace", true), ("Unfit", true), ("NoNumber", true), ("NoCell", true), ("NothingDone", true), ("BadLine", true), ("TooMany", true)]) T.is_Exception T.z_isinstance T.z_Exception (by decide +kernel) ((de_v 0)))) da_nil)))))))))))))
theorem S519 : FnScope ["_law_error_so", "_law_found"] ["_law_error_so"] (defScope s519) := ⟨rfl, rfl, rfl, by decide +kernel, rfl, by decide +kernel, by decide +kernel⟩
theorem h519 (T : Tp P w K mg base C k r r7) (f : Addr) (cdv : Value) (A : Around) (outer : List Env) (s : Shared) (H : Hp) (E : XK) (L : List Addr) (H0 G0 : Hp) (hr : Room k (A.deeper (envOfC "_law_which" (defScope s519) s.heap.objs.size f cdv))) :
    DSs (cxOf (L2.CX P w) P w K mg base ["_law_error_so", "_law_found"] "_law_which" (defScope s519) f cdv A outer s H E) ⟨⟨K, w⟩, L, H0, G0, C⟩ (fun cls d _ H => E cls d H) (defBody s519) (b519 r r7) := by
  have hN : (cxOf (L2.CX P w) P w K mg base ["_law_error_so", "_law_found"] "_law_which" (defScope s519) f cdv A outer s H E).N.Nodup := S519.nd
  exact (dss_cons (ds_set (i := 1) hN (dm_val (DN.de ((dn_lst (da_cons ((de_isEC (tb := [("CanNot", false), ("NoPlace", false), ("Unfit", false), ("NoNumber", false), ("NoCell", false), ("NothingDone", false), ("BadLine", true), ("TooMany", false)]) T.is_BadLine T.z_isinstance T.y6.gC ((de_v 0)))) (da_cons ((de_isEC (tb := [("CanNot", true), ("NoPlace", false), ("Unfit", false), ("NoNumber", false), ("NoCell", false), ("NothingDone", false), ("BadLine", false), ("TooMany", false)]) T.is_CanNot T.z_isinstance T.x0.gC ((de_v 0)))) (da_cons ((de_isEC (tb := [("CanNot", false), ("NoPlace", false), ("Unfit", false), ("NoNumber", false), ("NoCell", true), ("NothingDone", false), ("BadLine", false), ("TooMany", false)]) T.is_NoCell T.z_isinstance T.y4.gC ((de_v 0)))) (da_cons ((de_isEC (tb := [("CanNot", false), ("NoPlace", false), ("Unfit", false), ("NoNumber", true), ("NoCell", false), ("NothingDone", false), ("BadLine", false), ("TooMany", false)]) T.is_NoNumber T.z_isinstance T.y3.gC ((de_v 0)))) da_nil)))))))))
    (dss_one (ds_ret (dm_own ((dn_cat ((de_v 1)) (DN.de ((dn_lst (da_cons ((de_isEC (tb := [("CanNot", false), ("NoPlace", true), ("Unfit", false), ("NoNumber", false), ("NoCell", false), ("NothingDone", false), ("BadLine", false), ("TooMany", false)]) T.is_NoPlace T.z_isinstance T.y1.gC ((de_v 0)))) (da_cons ((de_isEC (tb := [("CanNot", false), ("NoPlace", false), ("Unfit", false), ("NoNumber", false), ("NoCell", false), ("NothingDone", true), ("BadLine", false), ("TooMany", false)]) T.is_NothingDone T.z_isinstance T.x5.gC ((de_v 0)))) (da_cons ((de_isEC (tb := [("CanNot", false), ("NoPlace", false), ("Unfit", false), ("NoNumber", false), ("NoCell", false), ("NothingDone", false), ("BadLine", false), ("TooMany", true)]) T.is_TooMany T.z_isinstance T.x7.gC ((de_v 0)))) (da_cons ((de_isEC (tb := [("CanNot", false), ("NoPlace", false), ("Unfit", true), ("NoNumber", false), ("NoCell", false), ("NothingDone", false), ("BadLine", false), ("TooMany", false)]) T.is_Unfit T.z_isinstance T.x2.gC ((de_v 0)))) da_nil)))))))))))))
theorem S520 : FnScope ["_law_number_so", "_law_trail_so", "_law_value_so", "_law_look_so", "_law_made_so", "_law_got", "_law_due_so", "_law_at_so", "_law_own", "_law_k"] ["_law_number_so", "_law_trail_so"] (defScope s520) := ⟨rfl, rfl, rfl, by decide +kernel, rfl, by decide +kernel, by decide +kernel⟩
theorem h520 (T : Tp P w K mg base C k r r7) (f : Addr) (cdv : Value) (A : Around) (outer : List Env) (s : Shared) (H : Hp) (E : XK) (L : List Addr) (H0 G0 : Hp) (hr : Room k (A.deeper (envOfC "_law_made_right" (defScope s520) s.heap.objs.size f cdv))) :
    DSs (cxOf (L2.CX P w) P w K mg base ["_law_number_so", "_law_trail_so", "_law_value_so", "_law_look_so", "_law_made_so", "_law_got", "_law_due_so", "_law_at_so", "_law_own", "_law_k"] "_law_made_right" (defScope s520) f cdv A outer s H E) ⟨⟨K, w⟩, L, H0, G0, C⟩ (fun cls d _ H => E cls d H) (defBody s520) (b520 r r7) := by
  have hN : (cxOf (L2.CX P w) P w K mg base ["_law_number_so", "_law_trail_so", "_law_value_so", "_law_look_so", "_law_made_so", "_law_got", "_law_due_so", "_law_at_so", "_law_own", "_law_k"] "_law_made_right" (defScope s520) f cdv A outer s H E).N.Nodup := S520.nd
  have hu : (A.deeper (envOfC "_law_made_right" (defScope s520) s.heap.objs.size f cdv)).units + 64 < cLine := hr.units
  have tX : Takes (cxOf (L2.CX P w) P w K mg base ["_law_number_so", "_law_trail_so", "_law_value_so", "_law_look_so", "_law_made_so", "_law_got", "_law_due_so", "_law_at_so", "_law_own", "_law_k"] "_law_made_right" (defScope s520) f cdv A outer s H E) (fun cls d _ H => E cls d H) := takes_of rfl rfl rfl rfl
  have hp := passes_of (X := cxOf (L2.CX P w) P w K mg base ["_law_number_so", "_law_trail_so", "_law_value_so", "_law_look_so", "_law_made_so", "_law_got", "_law_due_so", "_law_at_so", "_law_own", "_law_k"] "_law_made_right" (defScope s520) f cdv A outer s H E) rfl
  exact (dss_cons (ds_par (i := 2) (j := 3) rfl hN (dm_val (DN.de ((dn_cat (DN.de ((dn_cat (DN.de ((dn_lst (da_cons (de_bl) (da_cons (de_bl) da_nil))))) (DN.de ((dn_rep (DN.de ((dn_lst (da_cons (de_bl) da_nil)))) (de_int))))))) (DN.de ((dn_lst (da_cons (de_bl) da_nil)))))))) (dm_val (DN.de ((dn_cat (DN.de ((dn_cat (DN.de ((dn_lst (da_cons (de_bl) da_nil)))) (DN.de ((dn_rep (DN.de ((dn_lst (da_cons (de_bl) da_nil)))) (de_int))))))) (DN.de ((dn_lst (da_cons (de_bl) da_nil)))))))))
    (dss_cons (ds_set (i := 4) hN (dm_val (DN.de ((dn_lst (da_cons ((de_mk1 T.y6 T.n6 hr (da_cons ((de_v 0)) da_nil) passL)) (da_cons ((de_mk0 T.x0 T.n0)) (da_cons ((de_mk1 T.y4 T.n4 hr (da_cons ((de_v 1)) da_nil) passL)) (da_cons ((de_mk1 T.y3 T.n3 hr (da_cons ((de_v 0)) da_nil) passL)) (da_cons ((de_mk1 T.y1 T.n1 hr (da_cons ((de_v 1)) da_nil) passL)) (da_cons ((de_mk0 T.x5 T.n5)) (da_cons ((de_mk0 T.x7 T.n7)) (da_cons ((de_mk0 T.x2 T.n2)) da_nil)))))))))))))
    (dss_cons (ds_set (i := 5) hN (dm_own ((dn_lst (da_cons (DN.de ((dn_lst (da_cons ((de_att (cs := ["NoNumber", "BadLine"]) T.at_number ((de_at ((de_v 4)) (de_int))))) (da_cons ((de_att (cs := ["NoCell"]) T.at_cell ((de_at ((de_v 4)) (de_int))))) (da_cons ((de_att (cs := ["NoNumber", "BadLine"]) T.at_number ((de_at ((de_v 4)) (de_int))))) (da_cons ((de_att (cs := ["NoPlace"]) T.at_place ((de_at ((de_v 4)) (de_int))))) da_nil))))))) da_nil)))))
    (dss_cons (ds_append 5 (DN.de ((dn_lst (da_cons ((de_att (cs := ["NoNumber", "BadLine"]) T.at_number ((de_mkK T.k6 T.n6 hr (dk_cons ((de_v 0)) dk_nil) passL)))) (da_cons ((de_att (cs := ["NoCell"]) T.at_cell ((de_mkK T.k4 T.n4 hr (dk_cons ((de_v 1)) dk_nil) passL)))) (da_cons ((de_att (cs := ["NoNumber", "BadLine"]) T.at_number ((de_mkK T.k3 T.n3 hr (dk_cons ((de_v 0)) dk_nil) passL)))) (da_cons ((de_att (cs := ["NoPlace"]) T.at_place ((de_mkK T.k1 T.n1 hr (dk_cons ((de_v 1)) dk_nil) passL)))) da_nil))))))))
    (dss_cons (ds_set (i := 6) hN (dm_val (DN.de ((dn_rep (DN.de ((dn_lst (da_cons (DN.de ((dn_lst (da_cons ((de_v 0)) (da_cons ((de_v 1)) (da_cons ((de_v 0)) (da_cons ((de_v 1)) da_nil))))))) da_nil)))) (de_int))))))
    (dss_cons (ds_for hp rfl (di_en T.z_enumerate ((de_v 4))) (dg_tup rfl (dgs_cons (dg_name 7 hN) (dgs_cons (dg_name 8 hN) dgs_nil))) (dss_cons (ds_set (i := 5) hN (dm_own ((dn_cat ((de_v 5)) (DN.de ((dn_lst (da_cons (DN.de ((dn_cal T.c518 hr tX (da_cons ((de_v 8)) da_nil)))) (da_cons (DN.de ((dn_cal T.c519 hr tX (da_cons ((de_v 8)) da_nil)))) da_nil)))))))))
    (dss_one (ds_set (i := 6) hN (dm_val (DN.de ((dn_cat ((de_v 6)) (DN.de ((dn_lst (da_cons ((de_if ((dt_ch (de_int) ((de_v 7)) (de_int))) ((de_v 3)) ((de_v 2)))) (da_cons (DN.de ((dn_lc rfl hN (di_c (di_rng1 T.z_range (de_int))) (blkOk_by (own := [("_law_k", 9)]) (by rfl)) (fun _ _ _ _ _ => (dg_name 9 hN)) (fun _ _ _ _ _ => dts_nil) (fun _ _ _ _ _ => (de_eq hu ((de_v 9)) ((de_v 7))))))) da_nil)))))))))))))
    (dss_one (ds_frz 5 (ds_ret (dm_val ((de_cal T.c17 hr tX (da_cons ((de_v 5)) (da_cons ((de_v 6)) da_nil))))))))))))))
theorem S521 : FnScope ["_law_tin", "_law_number_so", "_law_lap"] ["_law_tin"] (defScope s521) := ⟨rfl, rfl, rfl, by decide +kernel, rfl, by decide +kernel, by decide +kernel⟩
theorem h521 (T : Tp P w K mg base C k r r7) (f : Addr) (cdv : Value) (A : Around) (outer : List Env) (s : Shared) (H : Hp) (E : XK) (L : List Addr) (H0 G0 : Hp) (hr : Room k (A.deeper (envOfC "_law_right" (defScope s521) s.heap.objs.size f cdv))) :
    DSs (cxOf (L2.CX P w) P w K mg base ["_law_tin", "_law_number_so", "_law_lap"] "_law_right" (defScope s521) f cdv A outer s H E) ⟨⟨K, w⟩, L, H0, G0, C⟩ (fun cls d _ H => E cls d H) (defBody s521) (b521 r r7) := by
  have hN : (cxOf (L2.CX P w) P w K mg base ["_law_tin", "_law_number_so", "_law_lap"] "_law_right" (defScope s521) f cdv A outer s H E).N.Nodup := S521.nd
  have tX : Takes (cxOf (L2.CX P w) P w K mg base ["_law_tin", "_law_number_so", "_law_lap"] "_law_right" (defScope s521) f cdv A outer s H E) (fun cls d _ H => E cls d H) := takes_of rfl rfl rfl rfl
  exact (dss_cons (ds_set (i := 1) hN (dm_val ((de_mul ((de_sub ((de_cal T.c12 hr tX (da_cons ((de_v 0)) (da_cons (de_int) da_nil)))) (de_int))) ((de_cal T.c14 hr tX (da_cons ((de_v 0)) (da_cons (DN.de ((dn_lst (da_cons (de_int) (da_cons (de_int) (da_cons (de_int) (da_cons ((de_pow (de_int) (de_int))) (da_cons ((de_cal T.c12 hr tX (da_cons ((de_v 0)) (da_cons (de_int) da_nil)))) da_nil)))))))) da_nil))))))))
    (dss_one (ds_ret (dm_val ((de_cal T.c520 hr tX (da_cons ((de_v 1)) (da_cons ((de_tuple T.z_tuple (DN.de ((dn_lc rfl hN (di_c (di_rng1 T.z_range ((de_cal T.c12 hr tX (da_cons ((de_v 0)) (da_cons (de_int) da_nil)))))) (blkOk_by (own := [("_law_lap", 2)]) (by rfl)) (fun _ _ _ _ _ => (dg_name 2 hN)) (fun _ _ _ _ _ => dts_nil) (fun _ _ _ _ _ => (de_cal T.c12 hr tk0 (da_cons ((de_v 0)) (da_cons (de_int) da_nil))))))))) da_nil))))))))
theorem S522 : FnScope ["_law_script", "_law_own", "_law_cells_here", "_law_nth_so"] ["_law_script"] (defScope s522) := ⟨rfl, rfl, rfl, by decide +kernel, rfl, by decide +kernel, by decide +kernel⟩
theorem h522 (T : Tp P w K mg base C k r r7) (f : Addr) (cdv : Value) (A : Around) (outer : List Env) (s : Shared) (H : Hp) (E : XK) (L : List Addr) (H0 G0 : Hp) (hr : Room k (A.deeper (envOfC "law" (defScope s522) s.heap.objs.size f cdv))) :
    DSs (cxOf (L2.CX P w) P w K mg base ["_law_script", "_law_own", "_law_cells_here", "_law_nth_so"] "law" (defScope s522) f cdv A outer s H E) ⟨⟨K, w⟩, L, H0, G0, C⟩ (fun cls d _ H => E cls d H) (defBody s522) (b522 r r7) := by
  have hN : (cxOf (L2.CX P w) P w K mg base ["_law_script", "_law_own", "_law_cells_here", "_law_nth_so"] "law" (defScope s522) f cdv A outer s H E).N.Nodup := S522.nd
  have tX : Takes (cxOf (L2.CX P w) P w K mg base ["_law_script", "_law_own", "_law_cells_here", "_law_nth_so"] "law" (defScope s522) f cdv A outer s H E) (fun cls d _ H => E cls d H) := takes_of rfl rfl rfl rfl
  exact (dss_cons (ds_if ((dt_not ((dt_truth ((de_all rfl T.z_all (DN.de ((dn_lc rfl hN (di_c (di_any ((de_tup (da_cons ((de_tup (da_cons (de_int) (da_cons ((de_tup da_nil)) da_nil)))) (da_cons ((de_tup (da_cons ((de_neg (de_int))) (da_cons ((de_tup (da_cons (de_int) da_nil))) da_nil)))) (da_cons ((de_tup (da_cons ((de_pow (de_int) (de_int))) (da_cons ((de_tup (da_cons (de_int) (da_cons (de_int) (da_cons (de_int) da_nil))))) da_nil)))) da_nil))))))) (blkOk_by (own := [("_law_own", 1)]) (by rfl)) (fun _ _ _ _ _ => (dg_name 1 hN)) (fun _ _ _ _ _ => dts_nil) (fun _ _ _ _ _ => (de_cal T.c520 hr tk0 (da_cons ((de_at ((de_v 1)) (de_int))) (da_cons ((de_at ((de_v 1)) (de_int))) da_nil))))))))))))) (dss_one (ds_ret (dm_val (de_bl)))) dss_nil)
    (dss_cons (ds_set (i := 2) hN (dm_val (DN.de ((dn_cal T.c13 hr tX (da_cons ((de_v 0)) (da_cons (de_int) da_nil)))))))
    (dss_one (ds_ret (dm_val ((de_all rfl T.z_all (DN.de ((dn_lc rfl hN (di_c (di_rng1 T.z_range ((de_len T.z_len ((de_v 2)))))) (blkOk_by (own := [("_law_nth_so", 3)]) (by rfl)) (fun _ _ _ _ _ => (dg_name 3 hN)) (fun _ _ _ _ _ => dts_nil) (fun _ _ _ _ _ => (de_calBox T.c521 hr tk0 ((dn_cal T.c517 hr tk0 (da_cons ((de_v 2)) (da_cons ((de_v 3)) da_nil))))))))))))))))
end
structure Tn (P : Program) (K : PySem.W.Frag) (mg : Str → Option Value) (C : Nat → Addr) : Prop where
  z_AttributeError : mg "AttributeError" = none
  z_Exception : mg "Exception" = none
  z_IndexError : mg "IndexError" = none
  z_KeyError : mg "KeyError" = none
  z_LookupError : mg "LookupError" = none
  z_RuntimeError : mg "RuntimeError" = none
  z_TypeError : mg "TypeError" = none
  z_ValueError : mg "ValueError" = none
  z_abs : mg "abs" = none
  z_all : mg "all" = none
  z_bool : mg "bool" = none
  z_enumerate : mg "enumerate" = none
  z_int : mg "int" = none
  z_isinstance : mg "isinstance" = none
  z_len : mg "len" = none
  z_list : mg "list" = none
  z_range : mg "range" = none
  z_str : mg "str" = none
  z_tuple : mg "tuple" = none
  z_zip : mg "zip" = none
  x0 : Xc K mg "CanNot" (C 0)
  x2 : Xc K mg "Unfit" (C 2)
  x5 : Xc K mg "NothingDone" (C 5)
  x7 : Xc K mg "TooMany" (C 7)
  y1 : ∀ (w : World) (base : Heap), Xf P w K mg base "NoPlace" (C 1) "place"
  y3 : ∀ (w : World) (base : Heap), Xf P w K mg base "NoNumber" (C 3) "number"
  y4 : ∀ (w : World) (base : Heap), Xf P w K mg base "NoCell" (C 4) "cell"
  y6 : ∀ (w : World) (base : Heap), Xf P w K mg base "BadLine" (C 6) "number"
  f1 : XfC K (C 1) ∧ PySem.W.findIn K (.ref (C 1)) "place" = some none
  f3 : XfC K (C 3) ∧ PySem.W.findIn K (.ref (C 3)) "number" = some none
  f4 : XfC K (C 4) ∧ PySem.W.findIn K (.ref (C 4)) "cell" = some none
  f6 : XfC K (C 6) ∧ PySem.W.findIn K (.ref (C 6)) "number" = some none
  n0 : PySem.W.nsIn K mainGlobals "CanNot" = some (some (.ref (C 0)))
  n1 : PySem.W.nsIn K mainGlobals "NoPlace" = some (some (.ref (C 1)))
  n2 : PySem.W.nsIn K mainGlobals "Unfit" = some (some (.ref (C 2)))
  n3 : PySem.W.nsIn K mainGlobals "NoNumber" = some (some (.ref (C 3)))
  n4 : PySem.W.nsIn K mainGlobals "NoCell" = some (some (.ref (C 4)))
  n5 : PySem.W.nsIn K mainGlobals "NothingDone" = some (some (.ref (C 5)))
  n6 : PySem.W.nsIn K mainGlobals "BadLine" = some (some (.ref (C 6)))
  n7 : PySem.W.nsIn K mainGlobals "TooMany" = some (some (.ref (C 7)))
  k1 : ∀ (w : World) (base : Heap), XfK P w K mg base "NoPlace" (C 1) "place" "place"
  k3 : ∀ (w : World) (base : Heap), XfK P w K mg base "NoNumber" (C 3) "number" "number"
  k4 : ∀ (w : World) (base : Heap), XfK P w K mg base "NoCell" (C 4) "cell" "cell"
  k6 : ∀ (w : World) (base : Heap), XfK P w K mg base "BadLine" (C 6) "number" "number"
  at_cell : AtE K "cell" ["NoCell"]
  at_number : AtE K "number" ["NoNumber", "BadLine"]
  at_place : AtE K "place" ["NoPlace"]
  is_AttributeError : IsE K (.type "AttributeError") [("CanNot", false), ("NoPlace", false), ("Unfit", false), ("NoNumber", false), ("NoCell", false), ("NothingDone", false), ("BadLine", false), ("TooMany", false)]
  is_BadLine : IsE K (.ref (C 6)) [("CanNot", false), ("NoPlace", false), ("Unfit", false), ("NoNumber", false), ("NoCell", false), ("NothingDone", false), ("BadLine", true), ("TooMany", false)]
  is_CanNot : IsE K (.ref (C 0)) [("CanNot", true), ("NoPlace", false), ("Unfit", false), ("NoNumber", false), ("NoCell", false), ("NothingDone", false), ("BadLine", false), ("TooMany", false)]
  is_Exception : IsE K (.type "Exception") [("CanNot", true), ("NoPlace", true), ("Unfit", true), ("NoNumber", true), ("NoCell", true), ("NothingDone", true), ("BadLine", true), ("TooMany", true)]
  is_IndexError : IsE K (.type "IndexError") [("CanNot", false), ("NoPlace", false), ("Unfit", false), ("NoNumber", false), ("NoCell", false), ("NothingDone", false), ("BadLine", false), ("TooMany", false)]
  is_KeyError : IsE K (.type "KeyError") [("CanNot", false), ("NoPlace", false), ("Unfit", false), ("NoNumber", false), ("NoCell", false), ("NothingDone", false), ("BadLine", false), ("TooMany", false)]
  is_LookupError : IsE K (.type "LookupError") [("CanNot", false), ("NoPlace", true), ("Unfit", false), ("NoNumber", true), ("NoCell", true), ("NothingDone", true), ("BadLine", false), ("TooMany", false)]
  is_NoCell : IsE K (.ref (C 4)) [("CanNot", false), ("NoPlace", false), ("Unfit", false), ("NoNumber", false), ("NoCell", true), ("NothingDone", false), ("BadLine", false), ("TooMany", false)]
  is_NoNumber : IsE K (.ref (C 3)) [("CanNot", false), ("NoPlace", false), ("Unfit", false), ("NoNumber", true), ("NoCell", false), ("NothingDone", false), ("BadLine", false), ("TooMany", false)]
  is_NoPlace : IsE K (.ref (C 1)) [("CanNot", false), ("NoPlace", true), ("Unfit", false), ("NoNumber", false), ("NoCell", false), ("NothingDone", false), ("BadLine", false), ("TooMany", false)]
  is_NothingDone : IsE K (.ref (C 5)) [("CanNot", false), ("NoPlace", false), ("Unfit", false), ("NoNumber", false), ("NoCell", false), ("NothingDone", true), ("BadLine", false), ("TooMany", false)]
  is_RuntimeError : IsE K (.type "RuntimeError") [("CanNot", false), ("NoPlace", false), ("Unfit", false), ("NoNumber", false), ("NoCell", false), ("NothingDone", false), ("BadLine", false), ("TooMany", false)]
  is_TooMany : IsE K (.ref (C 7)) [("CanNot", false), ("NoPlace", false), ("Unfit", false), ("NoNumber", false), ("NoCell", false), ("NothingDone", false), ("BadLine", false), ("TooMany", true)]
  is_TypeError : IsE K (.type "TypeError") [("CanNot", false), ("NoPlace", false), ("Unfit", false), ("NoNumber", false), ("NoCell", false), ("NothingDone", false), ("BadLine", false), ("TooMany", false)]
  is_Unfit : IsE K (.ref (C 2)) [("CanNot", false), ("NoPlace", false), ("Unfit", true), ("NoNumber", false), ("NoCell", false), ("NothingDone", false), ("BadLine", false), ("TooMany", false)]
  is_ValueError : IsE K (.type "ValueError") [("CanNot", true), ("NoPlace", false), ("Unfit", true), ("NoNumber", false), ("NoCell", false), ("NothingDone", false), ("BadLine", true), ("TooMany", true)]
  d517 : Df K mg "_law_box" s517 ["_law_script", "_law_k"]
  d12 : Df K mg "_law_take" s12 ["_law_tin", "_law_below_so"]
  d13 : Df K mg "_law_cells" s13 ["_law_script", "_law_most_so"]
  d14 : Df K mg "_law_of" s14 ["_law_tin", "_law_goods_so"]
  d17 : Df K mg "_law_same" s17 ["_law_got", "_law_due"]
  d518 : Df K mg "_law_under" s518 ["_law_error_so"]
  d519 : Df K mg "_law_which" s519 ["_law_error_so"]
  d520 : Df K mg "_law_made_right" s520 ["_law_number_so", "_law_trail_so"]
  d521 : Df K mg "_law_right" s521 ["_law_tin"]
  d522 : Df K mg "law" s522 ["_law_script"]
theorem tp {P : Program} {w : World} {K : PySem.W.Frag} {mg : Str → Option Value} {base : Heap} {C : Nat → Addr} (N : Tn P K mg C) : ∀ k : Nat, Tp P w K mg base C k (run k) (run7 k)
  | 0 => by
    have c517 : Cal P w K mg base C (0) "_law_box" s517 ["_law_script", "_law_k"] 2 (run7 (0) 517) := N.d517.cal0
    have c12 : Cal P w K mg base C (0) "_law_take" s12 ["_law_tin", "_law_below_so"] 2 (run (0) 12) := N.d12.cal0
    have c13 : Cal P w K mg base C (0) "_law_cells" s13 ["_law_script", "_law_most_so"] 2 (run (0) 13) := N.d13.cal0
    have c14 : Cal P w K mg base C (0) "_law_of" s14 ["_law_tin", "_law_goods_so"] 2 (run (0) 14) := N.d14.cal0
    have c17 : Cal P w K mg base C (0) "_law_same" s17 ["_law_got", "_law_due"] 2 (run (0) 17) := N.d17.cal0
    have c518 : Cal P w K mg base C (0) "_law_under" s518 ["_law_error_so"] 1 (run7 (0) 518) := N.d518.cal0
    have c519 : Cal P w K mg base C (0) "_law_which" s519 ["_law_error_so"] 1 (run7 (0) 519) := N.d519.cal0
    have c520 : Cal P w K mg base C (0) "_law_made_right" s520 ["_law_number_so", "_law_trail_so"] 2 (run7 (0) 520) := N.d520.cal0
    have c521 : Cal P w K mg base C (0) "_law_right" s521 ["_law_tin"] 1 (run7 (0) 521) := N.d521.cal0
    have c522 : Cal P w K mg base C (0) "law" s522 ["_law_script"] 1 (run7 (0) 522) := N.d522.cal0
    exact {
      z_AttributeError := N.z_AttributeError,
      z_Exception := N.z_Exception,
      z_IndexError := N.z_IndexError,
      z_KeyError := N.z_KeyError,
      z_LookupError := N.z_LookupError,
      z_RuntimeError := N.z_RuntimeError,
      z_TypeError := N.z_TypeError,
      z_ValueError := N.z_ValueError,
      z_abs := N.z_abs,
      z_all := N.z_all,
      z_bool := N.z_bool,
      z_enumerate := N.z_enumerate,
      z_int := N.z_int,
      z_isinstance := N.z_isinstance,
      z_len := N.z_len,
      z_list := N.z_list,
      z_range := N.z_range,
      z_str := N.z_str,
      z_tuple := N.z_tuple,
      z_zip := N.z_zip,
      x0 := N.x0,
      x2 := N.x2,
      x5 := N.x5,
      x7 := N.x7,
      y1 := N.y1 w base,
      y3 := N.y3 w base,
      y4 := N.y4 w base,
      y6 := N.y6 w base,
      f1 := N.f1,
      f3 := N.f3,
      f4 := N.f4,
      f6 := N.f6,
      c517 := c517,
      c12 := c12,
      c13 := c13,
      c14 := c14,
      c17 := c17,
      c518 := c518,
      c519 := c519,
      c520 := c520,
      c521 := c521,
      c522 := c522,
      n0 := N.n0,
      n1 := N.n1,
      n2 := N.n2,
      n3 := N.n3,
      n4 := N.n4,
      n5 := N.n5,
      n6 := N.n6,
      n7 := N.n7,
      k1 := N.k1 w base,
      k3 := N.k3 w base,
      k4 := N.k4 w base,
      k6 := N.k6 w base,
      at_cell := N.at_cell,
      at_place := N.at_place,
      at_number := N.at_number,
      is_CanNot := N.is_CanNot,
      is_NoPlace := N.is_NoPlace,
      is_Unfit := N.is_Unfit,
      is_NoNumber := N.is_NoNumber,
      is_NoCell := N.is_NoCell,
      is_NothingDone := N.is_NothingDone,
      is_BadLine := N.is_BadLine,
      is_TooMany := N.is_TooMany,
      is_KeyError := N.is_KeyError,
      is_AttributeError := N.is_AttributeError,
      is_LookupError := N.is_LookupError,
      is_IndexError := N.is_IndexError,
      is_Exception := N.is_Exception,
      is_TypeError := N.is_TypeError,
      is_RuntimeError := N.is_RuntimeError,
      is_ValueError := N.is_ValueError }
  | k + 1 => by
    have ih : Tp P w K mg base C k (run k) (run7 k) := tp N k
    have c517 : Cal P w K mg base C (k + 1) "_law_box" s517 ["_law_script", "_law_k"] 2 (run7 (k + 1) 517) := N.d517.calS S517 (h517 ih)
    have c12 : Cal P w K mg base C (k + 1) "_law_take" s12 ["_law_tin", "_law_below_so"] 2 (run (k + 1) 12) := N.d12.calS S12 (h12 ih)
    have c13 : Cal P w K mg base C (k + 1) "_law_cells" s13 ["_law_script", "_law_most_so"] 2 (run (k + 1) 13) := N.d13.calS S13 (h13 ih)
    have c14 : Cal P w K mg base C (k + 1) "_law_of" s14 ["_law_tin", "_law_goods_so"] 2 (run (k + 1) 14) := N.d14.calS S14 (h14 ih)
    have c17 : Cal P w K mg base C (k + 1) "_law_same" s17 ["_law_got", "_law_due"] 2 (run (k + 1) 17) := N.d17.calS S17 (h17 ih)
    have c518 : Cal P w K mg base C (k + 1) "_law_under" s518 ["_law_error_so"] 1 (run7 (k + 1) 518) := N.d518.calS S518 (h518 ih)
    have c519 : Cal P w K mg base C (k + 1) "_law_which" s519 ["_law_error_so"] 1 (run7 (k + 1) 519) := N.d519.calS S519 (h519 ih)
    have c520 : Cal P w K mg base C (k + 1) "_law_made_right" s520 ["_law_number_so", "_law_trail_so"] 2 (run7 (k + 1) 520) := N.d520.calS S520 (h520 ih)
    have c521 : Cal P w K mg base C (k + 1) "_law_right" s521 ["_law_tin"] 1 (run7 (k + 1) 521) := N.d521.calS S521 (h521 ih)
    have c522 : Cal P w K mg base C (k + 1) "law" s522 ["_law_script"] 1 (run7 (k + 1) 522) := N.d522.calS S522 (h522 ih)
    exact {
      z_AttributeError := N.z_AttributeError,
      z_Exception := N.z_Exception,
      z_IndexError := N.z_IndexError,
      z_KeyError := N.z_KeyError,
      z_LookupError := N.z_LookupError,
      z_RuntimeError := N.z_RuntimeError,
      z_TypeError := N.z_TypeError,
      z_ValueError := N.z_ValueError,
      z_abs := N.z_abs,
      z_all := N.z_all,
      z_bool := N.z_bool,
      z_enumerate := N.z_enumerate,
      z_int := N.z_int,
      z_isinstance := N.z_isinstance,
      z_len := N.z_len,
      z_list := N.z_list,
      z_range := N.z_range,
      z_str := N.z_str,
      z_tuple := N.z_tuple,
      z_zip := N.z_zip,
      x0 := N.x0,
      x2 := N.x2,
      x5 := N.x5,
      x7 := N.x7,
      y1 := N.y1 w base,
      y3 := N.y3 w base,
      y4 := N.y4 w base,
      y6 := N.y6 w base,
      f1 := N.f1,
      f3 := N.f3,
      f4 := N.f4,
      f6 := N.f6,
      c517 := c517,
      c12 := c12,
      c13 := c13,
      c14 := c14,
      c17 := c17,
      c518 := c518,
      c519 := c519,
      c520 := c520,
      c521 := c521,
      c522 := c522,
      n0 := N.n0,
      n1 := N.n1,
      n2 := N.n2,
      n3 := N.n3,
      n4 := N.n4,
      n5 := N.n5,
      n6 := N.n6,
      n7 := N.n7,
      k1 := N.k1 w base,
      k3 := N.k3 w base,
      k4 := N.k4 w base,
      k6 := N.k6 w base,
      at_cell := N.at_cell,
      at_place := N.at_place,
      at_number := N.at_number,
      is_CanNot := N.is_CanNot,
      is_NoPlace := N.is_NoPlace,
      is_Unfit := N.is_Unfit,
      is_NoNumber := N.is_NoNumber,
      is_NoCell := N.is_NoCell,
      is_NothingDone := N.is_NothingDone,
      is_BadLine := N.is_BadLine,
      is_TooMany := N.is_TooMany,
      is_KeyError := N.is_KeyError,
      is_AttributeError := N.is_AttributeError,
      is_LookupError := N.is_LookupError,
      is_IndexError := N.is_IndexError,
      is_Exception := N.is_Exception,
      is_TypeError := N.is_TypeError,
      is_RuntimeError := N.is_RuntimeError,
      is_ValueError := N.is_ValueError }
theorem mk {l : PySem.W.OpenLaw} {w : World} {K : PySem.W.Frag} {h : Heap} {mg : Str → Option Value} {fa : Addr} (X : K.In h) (G : h.Ns mainGlobals mg) (hfa : mg "law" = some (.ref fa))
    {f517 : Addr} {od517 an517 : Option Addr} {sl517 : Array (Option Value)} {oc517 kV517 dc517 pm517 cd517 ct517 : Value}
    {f12 : Addr} {od12 an12 : Option Addr} {sl12 : Array (Option Value)} {oc12 kV12 dc12 pm12 cd12 ct12 : Value}
    {f13 : Addr} {od13 an13 : Option Addr} {sl13 : Array (Option Value)} {oc13 kV13 dc13 pm13 cd13 ct13 : Value}
    {f14 : Addr} {od14 an14 : Option Addr} {sl14 : Array (Option Value)} {oc14 kV14 dc14 pm14 cd14 ct14 : Value}
    {f17 : Addr} {od17 an17 : Option Addr} {sl17 : Array (Option Value)} {oc17 kV17 dc17 pm17 cd17 ct17 : Value}
    {f518 : Addr} {od518 an518 : Option Addr} {sl518 : Array (Option Value)} {oc518 kV518 dc518 pm518 cd518 ct518 : Value}
    {f519 : Addr} {od519 an519 : Option Addr} {sl519 : Array (Option Value)} {oc519 kV519 dc519 pm519 cd519 ct519 : Value}
    {f520 : Addr} {od520 an520 : Option Addr} {sl520 : Array (Option Value)} {oc520 kV520 dc520 pm520 cd520 ct520 : Value}
    {f521 : Addr} {od521 an521 : Option Addr} {sl521 : Array (Option Value)} {oc521 kV521 dc521 pm521 cd521 ct521 : Value}
    {f522 : Addr} {od522 an522 : Option Addr} {sl522 : Array (Option Value)} {oc522 kV522 dc522 pm522 cd522 ct522 : Value}
    {C0 : Addr}
    {C2 : Addr}
    {C5 : Addr}
    {C7 : Addr}
    {C1 yf1 yd1 yc1 : Addr} {yv1 : Array Value} {yfi1 ynm1 yqu1 : Str} {yt1 : Tok} {yoc1 ycc1 ycl1 ykV1 ydo1 ypm1 yct1 : Value} {yod1 yan1 ycd1 yld1 : Option Addr} {yos1 ycs1 yls1 : Array (Option Value)}
    {C3 yf3 yd3 yc3 : Addr} {yv3 : Array Value} {yfi3 ynm3 yqu3 : Str} {yt3 : Tok} {yoc3 ycc3 ycl3 ykV3 ydo3 ypm3 yct3 : Value} {yod3 yan3 ycd3 yld3 : Option Addr} {yos3 ycs3 yls3 : Array (Option Value)}
    {C4 yf4 yd4 yc4 : Addr} {yv4 : Array Value} {yfi4 ynm4 yqu4 : Str} {yt4 : Tok} {yoc4 ycc4 ycl4 ykV4 ydo4 ypm4 yct4 : Value} {yod4 yan4 ycd4 yld4 : Option Addr} {yos4 ycs4 yls4 : Array (Option Value)}
    {C6 yf6 yd6 yc6 : Addr} {yv6 : Array Value} {yfi6 ynm6 yqu6 : Str} {yt6 : Tok} {yoc6 ycc6 ycl6 ykV6 ydo6 ypm6 yct6 : Value} {yod6 yan6 ycd6 yld6 : Option Addr} {yos6 ycs6 yls6 : Array (Option Value)}
    (a517 : PySem.W.nsIn K mainGlobals "_law_box" = some (some (.ref f517))) (l517 : K.lookup f517 = some ⟨oc517, od517, .func (PySem.W.fnOf "_law_box" "_law_box" (defArgs s517) (defBody s517) (defScope s517) .none kV517 dc517 pm517 an517 cd517 ct517), sl517⟩) (c517 : PySem.W.codeIn K cd517 "_law_box" = true) (k517 : PySem.W.keepIn K (.ref f517) = true)
    (a12 : PySem.W.nsIn K mainGlobals "_law_take" = some (some (.ref f12))) (l12 : K.lookup f12 = some ⟨oc12, od12, .func (PySem.W.fnOf "_law_take" "_law_take" (defArgs s12) (defBody s12) (defScope s12) .none kV12 dc12 pm12 an12 cd12 ct12), sl12⟩) (c12 : PySem.W.codeIn K cd12 "_law_take" = true) (k12 : PySem.W.keepIn K (.ref f12) = true)
    (a13 : PySem.W.nsIn K mainGlobals "_law_cells" = some (some (.ref f13))) (l13 : K.lookup f13 = some ⟨oc13, od13, .func (PySem.W.fnOf "_law_cells" "_law_cells" (defArgs s13) (defBody s13) (defScope s13) .none kV13 dc13 pm13 an13 cd13 ct13), sl13⟩) (c13 : PySem.W.codeIn K cd13 "_law_cells" = true) (k13 : PySem.W.keepIn K (.ref f13) = true)
    (a14 : PySem.W.nsIn K mainGlobals "_law_of" = some (some (.ref f14))) (l14 : K.lookup f14 = some ⟨oc14, od14, .func (PySem.W.fnOf "_law_of" "_law_of" (defArgs s14) (defBody s14) (defScope s14) .none kV14 dc14 pm14 an14 cd14 ct14), sl14⟩) (c14 : PySem.W.codeIn K cd14 "_law_of" = true) (k14 : PySem.W.keepIn K (.ref f14) = true)
    (a17 : PySem.W.nsIn K mainGlobals "_law_same" = some (some (.ref f17))) (l17 : K.lookup f17 = some ⟨oc17, od17, .func (PySem.W.fnOf "_law_same" "_law_same" (defArgs s17) (defBody s17) (defScope s17) .none kV17 dc17 pm17 an17 cd17 ct17), sl17⟩) (c17 : PySem.W.codeIn K cd17 "_law_same" = true) (k17 : PySem.W.keepIn K (.ref f17) = true)
    (a518 : PySem.W.nsIn K mainGlobals "_law_under" = some (some (.ref f518))) (l518 : K.lookup f518 = some ⟨oc518, od518, .func (PySem.W.fnOf "_law_under" "_law_under" (defArgs s518) (defBody s518) (defScope s518) .none kV518 dc518 pm518 an518 cd518 ct518), sl518⟩) (c518 : PySem.W.codeIn K cd518 "_law_under" = true) (k518 : PySem.W.keepIn K (.ref f518) = true)
    (a519 : PySem.W.nsIn K mainGlobals "_law_which" = some (some (.ref f519))) (l519 : K.lookup f519 = some ⟨oc519, od519, .func (PySem.W.fnOf "_law_which" "_law_which" (defArgs s519) (defBody s519) (defScope s519) .none kV519 dc519 pm519 an519 cd519 ct519), sl519⟩) (c519 : PySem.W.codeIn K cd519 "_law_which" = true) (k519 : PySem.W.keepIn K (.ref f519) = true)
    (a520 : PySem.W.nsIn K mainGlobals "_law_made_right" = some (some (.ref f520))) (l520 : K.lookup f520 = some ⟨oc520, od520, .func (PySem.W.fnOf "_law_made_right" "_law_made_right" (defArgs s520) (defBody s520) (defScope s520) .none kV520 dc520 pm520 an520 cd520 ct520), sl520⟩) (c520 : PySem.W.codeIn K cd520 "_law_made_right" = true) (k520 : PySem.W.keepIn K (.ref f520) = true)
    (a521 : PySem.W.nsIn K mainGlobals "_law_right" = some (some (.ref f521))) (l521 : K.lookup f521 = some ⟨oc521, od521, .func (PySem.W.fnOf "_law_right" "_law_right" (defArgs s521) (defBody s521) (defScope s521) .none kV521 dc521 pm521 an521 cd521 ct521), sl521⟩) (c521 : PySem.W.codeIn K cd521 "_law_right" = true) (k521 : PySem.W.keepIn K (.ref f521) = true)
    (a522 : PySem.W.nsIn K mainGlobals "law" = some (some (.ref f522))) (l522 : K.lookup f522 = some ⟨oc522, od522, .func (PySem.W.fnOf "law" "law" (defArgs s522) (defBody s522) (defScope s522) .none kV522 dc522 pm522 an522 cd522 ct522), sl522⟩) (c522 : PySem.W.codeIn K cd522 "law" = true) (k522 : PySem.W.keepIn K (.ref f522) = true)
    (z0 : PySem.W.nsIn K mainGlobals "AttributeError" = some none)
    (z1 : PySem.W.nsIn K mainGlobals "Exception" = some none)
    (z2 : PySem.W.nsIn K mainGlobals "IndexError" = some none)
    (z3 : PySem.W.nsIn K mainGlobals "KeyError" = some none)
    (z4 : PySem.W.nsIn K mainGlobals "LookupError" = some none)
    (z5 : PySem.W.nsIn K mainGlobals "RuntimeError" = some none)
    (z6 : PySem.W.nsIn K mainGlobals "TypeError" = some none)
    (z7 : PySem.W.nsIn K mainGlobals "ValueError" = some none)
    (z8 : PySem.W.nsIn K mainGlobals "abs" = some none)
    (z9 : PySem.W.nsIn K mainGlobals "all" = some none)
    (z10 : PySem.W.nsIn K mainGlobals "bool" = some none)
    (z11 : PySem.W.nsIn K mainGlobals "enumerate" = some none)
    (z12 : PySem.W.nsIn K mainGlobals "int" = some none)
    (z13 : PySem.W.nsIn K mainGlobals "isinstance" = some none)
    (z14 : PySem.W.nsIn K mainGlobals "len" = some none)
    (z15 : PySem.W.nsIn K mainGlobals "list" = some none)
    (z16 : PySem.W.nsIn K mainGlobals "range" = some none)
    (z17 : PySem.W.nsIn K mainGlobals "str" = some none)
    (z18 : PySem.W.nsIn K mainGlobals "tuple" = some none)
    (z19 : PySem.W.nsIn K mainGlobals "zip" = some none)
    (xa0 : PySem.W.nsIn K mainGlobals "CanNot" = some (some (.ref C0))) (xk0 : PySem.W.keepIn K (.ref C0) = true) (xe0 : PySem.W.subIn K (.ref C0) (.type "BaseException") = some true) (xt0 : PySem.W.typeIn K (.ref C0) = some (.type "type")) (xi0 : PySem.W.isClsIn K C0 = true) (xs0 : PySem.W.subIn K (.ref C0) (.ref C0) = some true) (xq0 : PySem.W.excIn K C0 [.type "ValueError", .type "Exception", .type "BaseException", .type "object"] "ValueError.__new__" = true)
    (xa2 : PySem.W.nsIn K mainGlobals "Unfit" = some (some (.ref C2))) (xk2 : PySem.W.keepIn K (.ref C2) = true) (xe2 : PySem.W.subIn K (.ref C2) (.type "BaseException") = some true) (xt2 : PySem.W.typeIn K (.ref C2) = some (.type "type")) (xi2 : PySem.W.isClsIn K C2 = true) (xs2 : PySem.W.subIn K (.ref C2) (.ref C2) = some true) (xq2 : PySem.W.excIn K C2 [.type "ValueError", .type "Exception", .type "BaseException", .type "object"] "ValueError.__new__" = true)
    (xa5 : PySem.W.nsIn K mainGlobals "NothingDone" = some (some (.ref C5))) (xk5 : PySem.W.keepIn K (.ref C5) = true) (xe5 : PySem.W.subIn K (.ref C5) (.type "BaseException") = some true) (xt5 : PySem.W.typeIn K (.ref C5) = some (.type "type")) (xi5 : PySem.W.isClsIn K C5 = true) (xs5 : PySem.W.subIn K (.ref C5) (.ref C5) = some true) (xq5 : PySem.W.excIn K C5 [.type "LookupError", .type "Exception", .type "BaseException", .type "object"] "LookupError.__new__" = true)
    (xa7 : PySem.W.nsIn K mainGlobals "TooMany" = some (some (.ref C7))) (xk7 : PySem.W.keepIn K (.ref C7) = true) (xe7 : PySem.W.subIn K (.ref C7) (.type "BaseException") = some true) (xt7 : PySem.W.typeIn K (.ref C7) = some (.type "type")) (xi7 : PySem.W.isClsIn K C7 = true) (xs7 : PySem.W.subIn K (.ref C7) (.ref C7) = some true) (xq7 : PySem.W.excIn K C7 [.type "ValueError", .type "Exception", .type "BaseException", .type "object"] "ValueError.__new__" = true)
    (ya1_0 : PySem.W.nsIn K mainGlobals "NoPlace" = some (some (.ref C1))) (ya1_1 : PySem.W.keepIn K (.ref C1) = true) (ya1_2 : PySem.W.subIn K (.ref C1) (.type "BaseException") = some true) (ya1_3 : PySem.W.typeIn K (.ref C1) = some (.type "type")) (ya1_4 : PySem.W.excInitIn K C1 [.type "LookupError", .type "Exception", .type "BaseException", .type "object"] "LookupError.__new__" = true) (ya1_5 : PySem.W.excOver K C1 [.type "LookupError", .type "Exception", .type "BaseException", .type "object"] = true) (ya1_6 : PySem.W.findIn K (.ref C1) "__setattr__" = some (some (.builtin "object.__setattr__"))) (ya1_7 : PySem.W.takerIn K C1 "place" = some none) (ya1_8 : PySem.W.hasDictIn K C1 = true) (ya1_9 : PySem.W.ks_superIn K C1 C1 "__init__" = some (some (.builtin "LookupError.__init__"))) (ya1_10 : PySem.W.subIn K (.ref C1) (.type "LookupError") = some true) (ya1_11 : PySem.W.mroIn K C1 (.ref C1) = some true) (ya1_12 : PySem.W.nsIn K cStatics "thirdparty.any" = some none) (ya1_13 : PySem.W.nsIn K mainGlobals "super" = some none) (ya1_14 : PySem.W.findIn K (.ref C1) "__init__" = some (some (.ref yf1))) (ya1_15 : PySem.W.typeIn K (.ref yf1) = some (.type "function")) (ya1_16 : K.lookup yf1 = some ⟨yoc1, yod1, .func (PySem.W.ksFn ynm1 yqu1 (defArgs (clsDef (top 1))) (defBody (clsDef (top 1))) (defScope (clsDef (top 1))) .none ykV1 ydo1 ypm1 yan1 (.ref yd1) yct1 yc1), yos1⟩) (ya1_17 : PySem.W.codeIn K (.ref yd1) yqu1 = true) (ya1_18 : K.lookup yd1 = some ⟨ycc1, ycd1, .fields yv1, ycs1⟩) (ya1_19 : yv1[2]? = some (.str yfi1 yt1)) (ya1_20 : ((l.prog.main.file : Str) == yfi1) = true) (ya1_21 : K.lookup yc1 = some ⟨ycl1, yld1, .cell (some (.ref C1)), yls1⟩) (ya1_22 : (l.prog.main.scope.names.lookup ("super" : Str)).isSome = false)
    (ya3_0 : PySem.W.nsIn K mainGlobals "NoNumber" = some (some (.ref C3))) (ya3_1 : PySem.W.keepIn K (.ref C3) = true) (ya3_2 : PySem.W.subIn K (.ref C3) (.type "BaseException") = some true) (ya3_3 : PySem.W.typeIn K (.ref C3) = some (.type "type")) (ya3_4 : PySem.W.excInitIn K C3 [.type "LookupError", .type "Exception", .type "BaseException", .type "object"] "LookupError.__new__" = true) (ya3_5 : PySem.W.excOver K C3 [.type "LookupError", .type "Exception", .type "BaseException", .type "object"] = true) (ya3_6 : PySem.W.findIn K (.ref C3) "__setattr__" = some (some (.builtin "object.__setattr__"))) (ya3_7 : PySem.W.takerIn K C3 "number" = some none) (ya3_8 : PySem.W.hasDictIn K C3 = true) (ya3_9 : PySem.W.ks_superIn K C3 C3 "__init__" = some (some (.builtin "LookupError.__init__"))) (ya3_10 : PySem.W.subIn K (.ref C3) (.type "LookupError") = some true) (ya3_11 : PySem.W.mroIn K C3 (.ref C3) = some true) (ya3_12 : PySem.W.nsIn K cStatics "thirdparty.any" = some none) (ya3_13 : PySem.W.nsIn K mainGlobals "super" = some none) (ya3_14 : PySem.W.findIn K (.ref C3) "__init__" = some (some (.ref yf3))) (ya3_15 : PySem.W.typeIn K (.ref yf3) = some (.type "function")) (ya3_16 : K.lookup yf3 = some ⟨yoc3, yod3, .func (PySem.W.ksFn ynm3 yqu3 (defArgs (clsDef (top 3))) (defBody (clsDef (top 3))) (defScope (clsDef (top 3))) .none ykV3 ydo3 ypm3 yan3 (.ref yd3) yct3 yc3), yos3⟩) (ya3_17 : PySem.W.codeIn K (.ref yd3) yqu3 = true) (ya3_18 : K.lookup yd3 = some ⟨ycc3, ycd3, .fields yv3, ycs3⟩) (ya3_19 : yv3[2]? = some (.str yfi3 yt3)) (ya3_20 : ((l.prog.main.file : Str) == yfi3) = true) (ya3_21 : K.lookup yc3 = some ⟨ycl3, yld3, .cell (some (.ref C3)), yls3⟩) (ya3_22 : (l.prog.main.scope.names.lookup ("super" : Str)).isSome = false)
    (ya4_0 : PySem.W.nsIn K mainGlobals "NoCell" = some (some (.ref C4))) (ya4_1 : PySem.W.keepIn K (.ref C4) = true) (ya4_2 : PySem.W.subIn K (.ref C4) (.type "BaseException") = some true) (ya4_3 : PySem.W.typeIn K (.ref C4) = some (.type "type")) (ya4_4 : PySem.W.excInitIn K C4 [.type "LookupError", .type "Exception", .type "BaseException", .type "object"] "LookupError.__new__" = true) (ya4_5 : PySem.W.excOver K C4 [.type "LookupError", .type "Exception", .type "BaseException", .type "object"] = true) (ya4_6 : PySem.W.findIn K (.ref C4) "__setattr__" = some (some (.builtin "object.__setattr__"))) (ya4_7 : PySem.W.takerIn K C4 "cell" = some none) (ya4_8 : PySem.W.hasDictIn K C4 = true) (ya4_9 : PySem.W.ks_superIn K C4 C4 "__init__" = some (some (.builtin "LookupError.__init__"))) (ya4_10 : PySem.W.subIn K (.ref C4) (.type "LookupError") = some true) (ya4_11 : PySem.W.mroIn K C4 (.ref C4) = some true) (ya4_12 : PySem.W.nsIn K cStatics "thirdparty.any" = some none) (ya4_13 : PySem.W.nsIn K mainGlobals "super" = some none) (ya4_14 : PySem.W.findIn K (.ref C4) "__init__" = some (some (.ref yf4))) (ya4_15 : PySem.W.typeIn K (.ref yf4) = some (.type "function")) (ya4_16 : K.lookup yf4 = some ⟨yoc4, yod4, .func (PySem.W.ksFn ynm4 yqu4 (defArgs (clsDef (top 2))) (defBody (clsDef (top 2))) (defScope (clsDef (top 2))) .none ykV4 ydo4 ypm4 yan4 (.ref yd4) yct4 yc4), yos4⟩) (ya4_17 : PySem.W.codeIn K (.ref yd4) yqu4 = true) (ya4_18 : K.lookup yd4 = some ⟨ycc4, ycd4, .fields yv4, ycs4⟩) (ya4_19 : yv4[2]? = some (.str yfi4 yt4)) (ya4_20 : ((l.prog.main.file : Str) == yfi4) = true) (ya4_21 : K.lookup yc4 = some ⟨ycl4, yld4, .cell (some (.ref C4)), yls4⟩) (ya4_22 : (l.prog.main.scope.names.lookup ("super" : Str)).isSome = false)
    (ya6_0 : PySem.W.nsIn K mainGlobals "BadLine" = some (some (.ref C6))) (ya6_1 : PySem.W.keepIn K (.ref C6) = true) (ya6_2 : PySem.W.subIn K (.ref C6) (.type "BaseException") = some true) (ya6_3 : PySem.W.typeIn K (.ref C6) = some (.type "type")) (ya6_4 : PySem.W.excInitIn K C6 [.type "ValueError", .type "Exception", .type "BaseException", .type "object"] "ValueError.__new__" = true) (ya6_5 : PySem.W.excOver K C6 [.type "ValueError", .type "Exception", .type "BaseException", .type "object"] = true) (ya6_6 : PySem.W.findIn K (.ref C6) "__setattr__" = some (some (.builtin "object.__setattr__"))) (ya6_7 : PySem.W.takerIn K C6 "number" = some none) (ya6_8 : PySem.W.hasDictIn K C6 = true) (ya6_9 : PySem.W.ks_superIn K C6 C6 "__init__" = some (some (.builtin "ValueError.__init__"))) (ya6_10 : PySem.W.subIn K (.ref C6) (.type "ValueError") = some true) (ya6_11 : PySem.W.mroIn K C6 (.ref C6) = some true) (ya6_12 : PySem.W.nsIn K cStatics "thirdparty.any" = some none) (ya6_13 : PySem.W.nsIn K mainGlobals "super" = some none) (ya6_14 : PySem.W.findIn K (.ref C6) "__init__" = some (some (.ref yf6))) (ya6_15 : PySem.W.typeIn K (.ref yf6) = some (.type "function")) (ya6_16 : K.lookup yf6 = some ⟨yoc6, yod6, .func (PySem.W.ksFn ynm6 yqu6 (defArgs (clsDef (top 5))) (defBody (clsDef (top 5))) (defScope (clsDef (top 5))) .none ykV6 ydo6 ypm6 yan6 (.ref yd6) yct6 yc6), yos6⟩) (ya6_17 : PySem.W.codeIn K (.ref yd6) yqu6 = true) (ya6_18 : K.lookup yd6 = some ⟨ycc6, ycd6, .fields yv6, ycs6⟩) (ya6_19 : yv6[2]? = some (.str yfi6 yt6)) (ya6_20 : ((l.prog.main.file : Str) == yfi6) = true) (ya6_21 : K.lookup yc6 = some ⟨ycl6, yld6, .cell (some (.ref C6)), yls6⟩) (ya6_22 : (l.prog.main.scope.names.lookup ("super" : Str)).isSome = false)
    (yb1_0 : PySem.W.findIn K (.ref C1) "__getattribute__" = some (some (.builtin "BaseException.__getattribute__"))) (yb1_1 : PySem.W.findIn K (.ref C1) "__getattr__" = some none) (yb1_2 : PySem.W.findIn K (.ref C1) "place" = some none)
    (yb3_0 : PySem.W.findIn K (.ref C3) "__getattribute__" = some (some (.builtin "BaseException.__getattribute__"))) (yb3_1 : PySem.W.findIn K (.ref C3) "__getattr__" = some none) (yb3_2 : PySem.W.findIn K (.ref C3) "number" = some none)
    (yb4_0 : PySem.W.findIn K (.ref C4) "__getattribute__" = some (some (.builtin "BaseException.__getattribute__"))) (yb4_1 : PySem.W.findIn K (.ref C4) "__getattr__" = some none) (yb4_2 : PySem.W.findIn K (.ref C4) "cell" = some none)
    (yb6_0 : PySem.W.findIn K (.ref C6) "__getattribute__" = some (some (.builtin "BaseException.__getattribute__"))) (yb6_1 : PySem.W.findIn K (.ref C6) "__getattr__" = some none) (yb6_2 : PySem.W.findIn K (.ref C6) "number" = some none)
    (xsc0_0 : PySem.W.findIn K (.ref C0) "__getattribute__" = some (some (.builtin "BaseException.__getattribute__"))) (xsc0_1 : PySem.W.findIn K (.ref C0) "__getattr__" = some none) (xsc0_2 : PySem.W.subIn K (.ref C0) (.type "BaseException") = some true) (xsc0_3 : PySem.W.hasDictIn K C0 = true) (xsc0_4 : PySem.W.findIn K (.ref C0) "__class__" = some (some (.builtin "object.__class__"))) (xsc0_5 : PySem.W.specialIn K (.builtin "object.__class__") "__get__" = some (some (.builtin "getset_descriptor.__get__"))) (xsc0_6 : PySem.W.takesIn K (.builtin "object.__class__") = some true) (xsc0_7 : PySem.W.mroIn K C0 (.type "object") = some true)
    (xsc1_0 : PySem.W.findIn K (.ref C1) "__getattribute__" = some (some (.builtin "BaseException.__getattribute__"))) (xsc1_1 : PySem.W.findIn K (.ref C1) "__getattr__" = some none) (xsc1_2 : PySem.W.subIn K (.ref C1) (.type "BaseException") = some true) (xsc1_3 : PySem.W.hasDictIn K C1 = true) (xsc1_4 : PySem.W.findIn K (.ref C1) "__class__" = some (some (.builtin "object.__class__"))) (xsc1_5 : PySem.W.specialIn K (.builtin "object.__class__") "__get__" = some (some (.builtin "getset_descriptor.__get__"))) (xsc1_6 : PySem.W.takesIn K (.builtin "object.__class__") = some true) (xsc1_7 : PySem.W.mroIn K C1 (.type "object") = some true)
    (xsc2_0 : PySem.W.findIn K (.ref C2) "__getattribute__" = some (some (.builtin "BaseException.__getattribute__"))) (xsc2_1 : PySem.W.findIn K (.ref C2) "__getattr__" = some none) (xsc2_2 : PySem.W.subIn K (.ref C2) (.type "BaseException") = some true) (xsc2_3 : PySem.W.hasDictIn K C2 = true) (xsc2_4 : PySem.W.findIn K (.ref C2) "__class__" = some (some (.builtin "object.__class__"))) (xsc2_5 : PySem.W.specialIn K (.builtin "object.__class__") "__get__" = some (some (.builtin "getset_descriptor.__get__"))) (xsc2_6 : PySem.W.takesIn K (.builtin "object.__class__") = some true) (xsc2_7 : PySem.W.mroIn K C2 (.type "object") = some true)
    (xsc3_0 : PySem.W.findIn K (.ref C3) "__getattribute__" = some (some (.builtin "BaseException.__getattribute__"))) (xsc3_1 : PySem.W.findIn K (.ref C3) "__getattr__" = some none) (xsc3_2 : PySem.W.subIn K (.ref C3) (.type "BaseException") = some true) (xsc3_3 : PySem.W.hasDictIn K C3 = true) (xsc3_4 : PySem.W.findIn K (.ref C3) "__class__" = some (some (.builtin "object.__class__"))) (xsc3_5 : PySem.W.specialIn K (.builtin "object.__class__") "__get__" = some (some (.builtin "getset_descriptor.__get__"))) (xsc3_6 : PySem.W.takesIn K (.builtin "object.__class__") = some true) (xsc3_7 : PySem.W.mroIn K C3 (.type "object") = some true)
    (xsc4_0 : PySem.W.findIn K (.ref C4) "__getattribute__" = some (some (.builtin "BaseException.__getattribute__"))) (xsc4_1 : PySem.W.findIn K (.ref C4) "__getattr__" = some none) (xsc4_2 : PySem.W.subIn K (.ref C4) (.type "BaseException") = some true) (xsc4_3 : PySem.W.hasDictIn K C4 = true) (xsc4_4 : PySem.W.findIn K (.ref C4) "__class__" = some (some (.builtin "object.__class__"))) (xsc4_5 : PySem.W.specialIn K (.builtin "object.__class__") "__get__" = some (some (.builtin "getset_descriptor.__get__"))) (xsc4_6 : PySem.W.takesIn K (.builtin "object.__class__") = some true) (xsc4_7 : PySem.W.mroIn K C4 (.type "object") = some true)
    (xsc5_0 : PySem.W.findIn K (.ref C5) "__getattribute__" = some (some (.builtin "BaseException.__getattribute__"))) (xsc5_1 : PySem.W.findIn K (.ref C5) "__getattr__" = some none) (xsc5_2 : PySem.W.subIn K (.ref C5) (.type "BaseException") = some true) (xsc5_3 : PySem.W.hasDictIn K C5 = true) (xsc5_4 : PySem.W.findIn K (.ref C5) "__class__" = some (some (.builtin "object.__class__"))) (xsc5_5 : PySem.W.specialIn K (.builtin "object.__class__") "__get__" = some (some (.builtin "getset_descriptor.__get__"))) (xsc5_6 : PySem.W.takesIn K (.builtin "object.__class__") = some true) (xsc5_7 : PySem.W.mroIn K C5 (.type "object") = some true)
    (xsc6_0 : PySem.W.findIn K (.ref C6) "__getattribute__" = some (some (.builtin "BaseException.__getattribute__"))) (xsc6_1 : PySem.W.findIn K (.ref C6) "__getattr__" = some none) (xsc6_2 : PySem.W.subIn K (.ref C6) (.type "BaseException") = some true) (xsc6_3 : PySem.W.hasDictIn K C6 = true) (xsc6_4 : PySem.W.findIn K (.ref C6) "__class__" = some (some (.builtin "object.__class__"))) (xsc6_5 : PySem.W.specialIn K (.builtin "object.__class__") "__get__" = some (some (.builtin "getset_descriptor.__get__"))) (xsc6_6 : PySem.W.takesIn K (.builtin "object.__class__") = some true) (xsc6_7 : PySem.W.mroIn K C6 (.type "object") = some true)
    (xsc7_0 : PySem.W.findIn K (.ref C7) "__getattribute__" = some (some (.builtin "BaseException.__getattribute__"))) (xsc7_1 : PySem.W.findIn K (.ref C7) "__getattr__" = some none) (xsc7_2 : PySem.W.subIn K (.ref C7) (.type "BaseException") = some true) (xsc7_3 : PySem.W.hasDictIn K C7 = true) (xsc7_4 : PySem.W.findIn K (.ref C7) "__class__" = some (some (.builtin "object.__class__"))) (xsc7_5 : PySem.W.specialIn K (.builtin "object.__class__") "__get__" = some (some (.builtin "getset_descriptor.__get__"))) (xsc7_6 : PySem.W.takesIn K (.builtin "object.__class__") = some true) (xsc7_7 : PySem.W.mroIn K C7 (.type "object") = some true)
    (xst7_CanNot : PySem.W.kitOne K (.ref C7) (.ref C0) = some false)
    (xst6_CanNot : PySem.W.kitOne K (.ref C6) (.ref C0) = some false)
    (xst5_CanNot : PySem.W.kitOne K (.ref C5) (.ref C0) = some false)
    (xst4_CanNot : PySem.W.kitOne K (.ref C4) (.ref C0) = some false)
    (xst3_CanNot : PySem.W.kitOne K (.ref C3) (.ref C0) = some false)
    (xst2_CanNot : PySem.W.kitOne K (.ref C2) (.ref C0) = some false)
    (xst1_CanNot : PySem.W.kitOne K (.ref C1) (.ref C0) = some false)
    (xst0_CanNot : PySem.W.kitOne K (.ref C0) (.ref C0) = some true)
    (xst7_NoPlace : PySem.W.kitOne K (.ref C7) (.ref C1) = some false)
    (xst6_NoPlace : PySem.W.kitOne K (.ref C6) (.ref C1) = some false)
    (xst5_NoPlace : PySem.W.kitOne K (.ref C5) (.ref C1) = some false)
    (xst4_NoPlace : PySem.W.kitOne K (.ref C4) (.ref C1) = some false)
    (xst3_NoPlace : PySem.W.kitOne K (.ref C3) (.ref C1) = some false)
    (xst2_NoPlace : PySem.W.kitOne K (.ref C2) (.ref C1) = some false)
    (xst1_NoPlace : PySem.W.kitOne K (.ref C1) (.ref C1) = some true)
    (xst0_NoPlace : PySem.W.kitOne K (.ref C0) (.ref C1) = some false)
    (xst7_Unfit : PySem.W.kitOne K (.ref C7) (.ref C2) = some false)
    (xst6_Unfit : PySem.W.kitOne K (.ref C6) (.ref C2) = some false)
    (xst5_Unfit : PySem.W.kitOne K (.ref C5) (.ref C2) = some false)
    (xst4_Unfit : PySem.W.kitOne K (.ref C4) (.ref C2) = some false)
    (xst3_Unfit : PySem.W.kitOne K (.ref C3) (.ref C2) = some false)
    (xst2_Unfit : PySem.W.kitOne K (.ref C2) (.ref C2) = some true)
    (xst1_Unfit : PySem.W.kitOne K (.ref C1) (.ref C2) = some false)
    (xst0_Unfit : PySem.W.kitOne K (.ref C0) (.ref C2) = some false)
    (xst7_NoNumber : PySem.W.kitOne K (.ref C7) (.ref C3) = some false)
    (xst6_NoNumber : PySem.W.kitOne K (.ref C6) (.ref C3) = some false)
    (xst5_NoNumber : PySem.W.kitOne K (.ref C5) (.ref C3) = some false)
    (xst4_NoNumber : PySem.W.kitOne K (.ref C4) (.ref C3) = some false)
    (xst3_NoNumber : PySem.W.kitOne K (.ref C3) (.ref C3) = some true)
    (xst2_NoNumber : PySem.W.kitOne K (.ref C2) (.ref C3) = some false)
    (xst1_NoNumber : PySem.W.kitOne K (.ref C1) (.ref C3) = some false)
    (xst0_NoNumber : PySem.W.kitOne K (.ref C0) (.ref C3) = some false)
    (xst7_NoCell : PySem.W.kitOne K (.ref C7) (.ref C4) = some false)
    (xst6_NoCell : PySem.W.kitOne K (.ref C6) (.ref C4) = some false)
    (xst5_NoCell : PySem.W.kitOne K (.ref C5) (.ref C4) = some false)
    (xst4_NoCell : PySem.W.kitOne K (.ref C4) (.ref C4) = some true)
    (xst3_NoCell : PySem.W.kitOne K (.ref C3) (.ref C4) = some false)
    (xst2_NoCell : PySem.W.kitOne K (.ref C2) (.ref C4) = some false)
    (xst1_NoCell : PySem.W.kitOne K (.ref C1) (.ref C4) = some false)
    (xst0_NoCell : PySem.W.kitOne K (.ref C0) (.ref C4) = some false)
    (xst7_NothingDone : PySem.W.kitOne K (.ref C7) (.ref C5) = some false)
    (xst6_NothingDone : PySem.W.kitOne K (.ref C6) (.ref C5) = some false)
    (xst5_NothingDone : PySem.W.kitOne K (.ref C5) (.ref C5) = some true)
    (xst4_NothingDone : PySem.W.kitOne K (.ref C4) (.ref C5) = some false)
    (xst3_NothingDone : PySem.W.kitOne K (.ref C3) (.ref C5) = some false)
    (xst2_NothingDone : PySem.W.kitOne K (.ref C2) (.ref C5) = some false)
    (xst1_NothingDone : PySem.W.kitOne K (.ref C1) (.ref C5) = some false)
    (xst0_NothingDone : PySem.W.kitOne K (.ref C0) (.ref C5) = some false)
    (xst7_BadLine : PySem.W.kitOne K (.ref C7) (.ref C6) = some false)
    (xst6_BadLine : PySem.W.kitOne K (.ref C6) (.ref C6) = some true)
    (xst5_BadLine : PySem.W.kitOne K (.ref C5) (.ref C6) = some false)
    (xst4_BadLine : PySem.W.kitOne K (.ref C4) (.ref C6) = some false)
    (xst3_BadLine : PySem.W.kitOne K (.ref C3) (.ref C6) = some false)
    (xst2_BadLine : PySem.W.kitOne K (.ref C2) (.ref C6) = some false)
    (xst1_BadLine : PySem.W.kitOne K (.ref C1) (.ref C6) = some false)
    (xst0_BadLine : PySem.W.kitOne K (.ref C0) (.ref C6) = some false)
    (xst7_TooMany : PySem.W.kitOne K (.ref C7) (.ref C7) = some true)
    (xst6_TooMany : PySem.W.kitOne K (.ref C6) (.ref C7) = some false)
    (xst5_TooMany : PySem.W.kitOne K (.ref C5) (.ref C7) = some false)
    (xst4_TooMany : PySem.W.kitOne K (.ref C4) (.ref C7) = some false)
    (xst3_TooMany : PySem.W.kitOne K (.ref C3) (.ref C7) = some false)
    (xst2_TooMany : PySem.W.kitOne K (.ref C2) (.ref C7) = some false)
    (xst1_TooMany : PySem.W.kitOne K (.ref C1) (.ref C7) = some false)
    (xst0_TooMany : PySem.W.kitOne K (.ref C0) (.ref C7) = some false)
    (xst7_KeyError : PySem.W.kitOne K (.ref C7) (.type "KeyError") = some false)
    (xst6_KeyError : PySem.W.kitOne K (.ref C6) (.type "KeyError") = some false)
    (xst5_KeyError : PySem.W.kitOne K (.ref C5) (.type "KeyError") = some false)
    (xst4_KeyError : PySem.W.kitOne K (.ref C4) (.type "KeyError") = some false)
    (xst3_KeyError : PySem.W.kitOne K (.ref C3) (.type "KeyError") = some false)
    (xst2_KeyError : PySem.W.kitOne K (.ref C2) (.type "KeyError") = some false)
    (xst1_KeyError : PySem.W.kitOne K (.ref C1) (.type "KeyError") = some false)
    (xst0_KeyError : PySem.W.kitOne K (.ref C0) (.type "KeyError") = some false)
    (xst7_AttributeError : PySem.W.kitOne K (.ref C7) (.type "AttributeError") = some false)
    (xst6_AttributeError : PySem.W.kitOne K (.ref C6) (.type "AttributeError") = some false)
    (xst5_AttributeError : PySem.W.kitOne K (.ref C5) (.type "AttributeError") = some false)
    (xst4_AttributeError : PySem.W.kitOne K (.ref C4) (.type "AttributeError") = some false)
    (xst3_AttributeError : PySem.W.kitOne K (.ref C3) (.type "AttributeError") = some false)
    (xst2_AttributeError : PySem.W.kitOne K (.ref C2) (.type "AttributeError") = some false)
    (xst1_AttributeError : PySem.W.kitOne K (.ref C1) (.type "AttributeError") = some false)
    (xst0_AttributeError : PySem.W.kitOne K (.ref C0) (.type "AttributeError") = some false)
    (xst7_LookupError : PySem.W.kitOne K (.ref C7) (.type "LookupError") = some false)
    (xst6_LookupError : PySem.W.kitOne K (.ref C6) (.type "LookupError") = some false)
    (xst5_LookupError : PySem.W.kitOne K (.ref C5) (.type "LookupError") = some true)
    (xst4_LookupError : PySem.W.kitOne K (.ref C4) (.type "LookupError") = some true)
    (xst3_LookupError : PySem.W.kitOne K (.ref C3) (.type "LookupError") = some true)
    (xst2_LookupError : PySem.W.kitOne K (.ref C2) (.type "LookupError") = some false)
    (xst1_LookupError : PySem.W.kitOne K (.ref C1) (.type "LookupError") = some true)
    (xst0_LookupError : PySem.W.kitOne K (.ref C0) (.type "LookupError") = some false)
    (xst7_IndexError : PySem.W.kitOne K (.ref C7) (.type "IndexError") = some false)
    (xst6_IndexError : PySem.W.kitOne K (.ref C6) (.type "IndexError") = some false)
    (xst5_IndexError : PySem.W.kitOne K (.ref C5) (.type "IndexError") = some false)
    (xst4_IndexError : PySem.W.kitOne K (.ref C4) (.type "IndexError") = some false)
    (xst3_IndexError : PySem.W.kitOne K (.ref C3) (.type "IndexError") = some false)
    (xst2_IndexError : PySem.W.kitOne K (.ref C2) (.type "IndexError") = some false)
    (xst1_IndexError : PySem.W.kitOne K (.ref C1) (.type "IndexError") = some false)
    (xst0_IndexError : PySem.W.kitOne K (.ref C0) (.type "IndexError") = some false)
    (xst7_Exception : PySem.W.kitOne K (.ref C7) (.type "Exception") = some true)
    (xst6_Exception : PySem.W.kitOne K (.ref C6) (.type "Exception") = some true)
    (xst5_Exception : PySem.W.kitOne K (.ref C5) (.type "Exception") = some true)
    (xst4_Exception : PySem.W.kitOne K (.ref C4) (.type "Exception") = some true)
    (xst3_Exception : PySem.W.kitOne K (.ref C3) (.type "Exception") = some true)
    (xst2_Exception : PySem.W.kitOne K (.ref C2) (.type "Exception") = some true)
    (xst1_Exception : PySem.W.kitOne K (.ref C1) (.type "Exception") = some true)
    (xst0_Exception : PySem.W.kitOne K (.ref C0) (.type "Exception") = some true)
    (xst7_TypeError : PySem.W.kitOne K (.ref C7) (.type "TypeError") = some false)
    (xst6_TypeError : PySem.W.kitOne K (.ref C6) (.type "TypeError") = some false)
    (xst5_TypeError : PySem.W.kitOne K (.ref C5) (.type "TypeError") = some false)
    (xst4_TypeError : PySem.W.kitOne K (.ref C4) (.type "TypeError") = some false)
    (xst3_TypeError : PySem.W.kitOne K (.ref C3) (.type "TypeError") = some false)
    (xst2_TypeError : PySem.W.kitOne K (.ref C2) (.type "TypeError") = some false)
    (xst1_TypeError : PySem.W.kitOne K (.ref C1) (.type "TypeError") = some false)
    (xst0_TypeError : PySem.W.kitOne K (.ref C0) (.type "TypeError") = some false)
    (xst7_RuntimeError : PySem.W.kitOne K (.ref C7) (.type "RuntimeError") = some false)
    (xst6_RuntimeError : PySem.W.kitOne K (.ref C6) (.type "RuntimeError") = some false)
    (xst5_RuntimeError : PySem.W.kitOne K (.ref C5) (.type "RuntimeError") = some false)
    (xst4_RuntimeError : PySem.W.kitOne K (.ref C4) (.type "RuntimeError") = some false)
    (xst3_RuntimeError : PySem.W.kitOne K (.ref C3) (.type "RuntimeError") = some false)
    (xst2_RuntimeError : PySem.W.kitOne K (.ref C2) (.type "RuntimeError") = some false)
    (xst1_RuntimeError : PySem.W.kitOne K (.ref C1) (.type "RuntimeError") = some false)
    (xst0_RuntimeError : PySem.W.kitOne K (.ref C0) (.type "RuntimeError") = some false)
    (xst7_ValueError : PySem.W.kitOne K (.ref C7) (.type "ValueError") = some true)
    (xst6_ValueError : PySem.W.kitOne K (.ref C6) (.type "ValueError") = some true)
    (xst5_ValueError : PySem.W.kitOne K (.ref C5) (.type "ValueError") = some false)
    (xst4_ValueError : PySem.W.kitOne K (.ref C4) (.type "ValueError") = some false)
    (xst3_ValueError : PySem.W.kitOne K (.ref C3) (.type "ValueError") = some false)
    (xst2_ValueError : PySem.W.kitOne K (.ref C2) (.type "ValueError") = some true)
    (xst1_ValueError : PySem.W.kitOne K (.ref C1) (.type "ValueError") = some false)
    (xst0_ValueError : PySem.W.kitOne K (.ref C0) (.type "ValueError") = some true)
    : ∃ fd : FuncData, (∀ (s : Shared) (v : Value), BindsTo s fd ⟨[v], []⟩ [("_law_script", v)]) ∧ ∀ base : Heap, K.In base → base.Ns mainGlobals mg → FnOk l.prog w K mg base (L2.CX l.prog w) KK fa fd ["_law_script"] (spLaw K (run7 KK 522)) := by
  have e := hfa.symm.trans (PySem.W.mg_of X G a522)
  cases e
  have N : Tn l.prog K mg (fun j => match j with | 0 => C0 | 2 => C2 | 5 => C5 | 7 => C7 | 1 => C1 | 3 => C3 | 4 => C4 | 6 => C6 | _ => 0) := {
    d517 := Df.mk' X G a517 l517 c517 k517 fun _ _ _ _ _ _ us hl => match us, hl with | [_, _], _ => rfl,
    d12 := Df.mk' X G a12 l12 c12 k12 fun _ _ _ _ _ _ us hl => match us, hl with | [_, _], _ => rfl,
    d13 := Df.mk' X G a13 l13 c13 k13 fun _ _ _ _ _ _ us hl => match us, hl with | [_, _], _ => rfl,
    d14 := Df.mk' X G a14 l14 c14 k14 fun _ _ _ _ _ _ us hl => match us, hl with | [_, _], _ => rfl,
    d17 := Df.mk' X G a17 l17 c17 k17 fun _ _ _ _ _ _ us hl => match us, hl with | [_, _], _ => rfl,
    d518 := Df.mk' X G a518 l518 c518 k518 fun _ _ _ _ _ _ us hl => match us, hl with | [_], _ => rfl,
    d519 := Df.mk' X G a519 l519 c519 k519 fun _ _ _ _ _ _ us hl => match us, hl with | [_], _ => rfl,
    d520 := Df.mk' X G a520 l520 c520 k520 fun _ _ _ _ _ _ us hl => match us, hl with | [_, _], _ => rfl,
    d521 := Df.mk' X G a521 l521 c521 k521 fun _ _ _ _ _ _ us hl => match us, hl with | [_], _ => rfl,
    d522 := Df.mk' X G a522 l522 c522 k522 fun _ _ _ _ _ _ us hl => match us, hl with | [_], _ => rfl,
    z_AttributeError := PySem.W.mg_none_of X G z0,
    z_Exception := PySem.W.mg_none_of X G z1,
    z_IndexError := PySem.W.mg_none_of X G z2,
    z_KeyError := PySem.W.mg_none_of X G z3,
    z_LookupError := PySem.W.mg_none_of X G z4,
    z_RuntimeError := PySem.W.mg_none_of X G z5,
    z_TypeError := PySem.W.mg_none_of X G z6,
    z_ValueError := PySem.W.mg_none_of X G z7,
    z_abs := PySem.W.mg_none_of X G z8,
    z_all := PySem.W.mg_none_of X G z9,
    z_bool := PySem.W.mg_none_of X G z10,
    z_enumerate := PySem.W.mg_none_of X G z11,
    z_int := PySem.W.mg_none_of X G z12,
    z_isinstance := PySem.W.mg_none_of X G z13,
    z_len := PySem.W.mg_none_of X G z14,
    z_list := PySem.W.mg_none_of X G z15,
    z_range := PySem.W.mg_none_of X G z16,
    z_str := PySem.W.mg_none_of X G z17,
    z_tuple := PySem.W.mg_none_of X G z18,
    z_zip := PySem.W.mg_none_of X G z19,
    x0 := ⟨PySem.W.mg_of X G xa0, xk0, xe0, xt0, exm_own xe0 xi0 xt0 xs0, _, _, _, _, PySem.F.excBase_ValueError, xq0⟩,
    x2 := ⟨PySem.W.mg_of X G xa2, xk2, xe2, xt2, exm_own xe2 xi2 xt2 xs2, _, _, _, _, PySem.F.excBase_ValueError, xq2⟩,
    x5 := ⟨PySem.W.mg_of X G xa5, xk5, xe5, xt5, exm_own xe5 xi5 xt5 xs5, _, _, _, _, PySem.F.excBase_LookupError, xq5⟩,
    x7 := ⟨PySem.W.mg_of X G xa7, xk7, xe7, xt7, exm_own xe7 xi7 xt7 xs7, _, _, _, _, PySem.F.excBase_ValueError, xq7⟩,
    y1 := fun w base => xf_mk PySem.F.excBase_LookupError PySem.W.kxs_LookupError PySem.F.store_LookupError I1 X G ya1_0 ya1_1 ya1_2 ya1_3 ya1_4 ya1_5 ya1_6 ya1_7 ya1_8 ya1_9 ya1_10 ya1_11 ya1_12 ya1_13 ya1_14 ya1_15 ya1_16 ya1_17 ya1_18 ya1_19 ya1_20 ya1_21 ya1_22 (.all fun us hl => match us, hl with | [_, _], _ => rfl),
    y3 := fun w base => xf_mk PySem.F.excBase_LookupError PySem.W.kxs_LookupError PySem.F.store_LookupError I3 X G ya3_0 ya3_1 ya3_2 ya3_3 ya3_4 ya3_5 ya3_6 ya3_7 ya3_8 ya3_9 ya3_10 ya3_11 ya3_12 ya3_13 ya3_14 ya3_15 ya3_16 ya3_17 ya3_18 ya3_19 ya3_20 ya3_21 ya3_22 (.all fun us hl => match us, hl with | [_, _], _ => rfl),
    y4 := fun w base => xf_mk PySem.F.excBase_LookupError PySem.W.kxs_LookupError PySem.F.store_LookupError I4 X G ya4_0 ya4_1 ya4_2 ya4_3 ya4_4 ya4_5 ya4_6 ya4_7 ya4_8 ya4_9 ya4_10 ya4_11 ya4_12 ya4_13 ya4_14 ya4_15 ya4_16 ya4_17 ya4_18 ya4_19 ya4_20 ya4_21 ya4_22 (.all fun us hl => match us, hl with | [_, _], _ => rfl),
    y6 := fun w base => xf_mk PySem.F.excBase_ValueError PySem.W.kxs_ValueError PySem.F.store_ValueError I6 X G ya6_0 ya6_1 ya6_2 ya6_3 ya6_4 ya6_5 ya6_6 ya6_7 ya6_8 ya6_9 ya6_10 ya6_11 ya6_12 ya6_13 ya6_14 ya6_15 ya6_16 ya6_17 ya6_18 ya6_19 ya6_20 ya6_21 ya6_22 (.all fun us hl => match us, hl with | [_, _], _ => rfl),
    f1 := ⟨⟨yb1_0, yb1_1, ya1_2, ya1_8⟩, yb1_2⟩,
    f3 := ⟨⟨yb3_0, yb3_1, ya3_2, ya3_8⟩, yb3_2⟩,
    f4 := ⟨⟨yb4_0, yb4_1, ya4_2, ya4_8⟩, yb4_2⟩,
    f6 := ⟨⟨yb6_0, yb6_1, ya6_2, ya6_8⟩, yb6_2⟩,
    n0 := xa0,
    n1 := ya1_0,
    n2 := xa2,
    n3 := ya3_0,
    n4 := ya4_0,
    n5 := xa5,
    n6 := ya6_0,
    n7 := xa7,
    k1 := fun w base => xfk_mk PySem.F.excBase_LookupError PySem.W.kxs_LookupError PySem.F.store_LookupError I1 X G ya1_0 ya1_1 ya1_2 ya1_3 ya1_4 ya1_5 ya1_6 ya1_7 ya1_8 ya1_9 ya1_10 ya1_11 ya1_12 ya1_13 ya1_14 ya1_15 ya1_16 ya1_17 ya1_18 ya1_19 ya1_20 ya1_21 ya1_22 (.all fun us hl => match us, hl with | [_, _], _ => rfl) (fun _ _ => rfl),
    k3 := fun w base => xfk_mk PySem.F.excBase_LookupError PySem.W.kxs_LookupError PySem.F.store_LookupError I3 X G ya3_0 ya3_1 ya3_2 ya3_3 ya3_4 ya3_5 ya3_6 ya3_7 ya3_8 ya3_9 ya3_10 ya3_11 ya3_12 ya3_13 ya3_14 ya3_15 ya3_16 ya3_17 ya3_18 ya3_19 ya3_20 ya3_21 ya3_22 (.all fun us hl => match us, hl with | [_, _], _ => rfl) (fun _ _ => rfl),
    k4 := fun w base => xfk_mk PySem.F.excBase_LookupError PySem.W.kxs_LookupError PySem.F.store_LookupError I4 X G ya4_0 ya4_1 ya4_2 ya4_3 ya4_4 ya4_5 ya4_6 ya4_7 ya4_8 ya4_9 ya4_10 ya4_11 ya4_12 ya4_13 ya4_14 ya4_15 ya4_16 ya4_17 ya4_18 ya4_19 ya4_20 ya4_21 ya4_22 (.all fun us hl => match us, hl with | [_, _], _ => rfl) (fun _ _ => rfl),
    k6 := fun w base => xfk_mk PySem.F.excBase_ValueError PySem.W.kxs_ValueError PySem.F.store_ValueError I6 X G ya6_0 ya6_1 ya6_2 ya6_3 ya6_4 ya6_5 ya6_6 ya6_7 ya6_8 ya6_9 ya6_10 ya6_11 ya6_12 ya6_13 ya6_14 ya6_15 ya6_16 ya6_17 ya6_18 ya6_19 ya6_20 ya6_21 ya6_22 (.all fun us hl => match us, hl with | [_, _], _ => rfl) (fun _ _ => rfl),
    at_cell := (atE_cons ya4_0 ⟨⟨yb4_0, yb4_1, ya4_2, ya4_8⟩, yb4_2⟩ atE_nil),
    at_place := (atE_cons ya1_0 ⟨⟨yb1_0, yb1_1, ya1_2, ya1_8⟩, yb1_2⟩ atE_nil),
    at_number := (atE_cons ya3_0 ⟨⟨yb3_0, yb3_1, ya3_2, ya3_8⟩, yb3_2⟩ (atE_cons ya6_0 ⟨⟨yb6_0, yb6_1, ya6_2, ya6_8⟩, yb6_2⟩ atE_nil)),
    is_CanNot := (isE_cons xa0 ⟨xsc0_0, xsc0_1, xsc0_2, xsc0_3, xsc0_4, xsc0_5, xsc0_6, xsc0_7⟩ xst0_CanNot (isE_cons ya1_0 ⟨xsc1_0, xsc1_1, xsc1_2, xsc1_3, xsc1_4, xsc1_5, xsc1_6, xsc1_7⟩ xst1_CanNot (isE_cons xa2 ⟨xsc2_0, xsc2_1, xsc2_2, xsc2_3, xsc2_4, xsc2_5, xsc2_6, xsc2_7⟩ xst2_CanNot (isE_cons ya3_0 ⟨xsc3_0, xsc3_1, xsc3_2, xsc3_3, xsc3_4, xsc3_5, xsc3_6, xsc3_7⟩ xst3_CanNot (isE_cons ya4_0 ⟨xsc4_0, xsc4_1, xsc4_2, xsc4_3, xsc4_4, xsc4_5, xsc4_6, xsc4_7⟩ xst4_CanNot (isE_cons xa5 ⟨xsc5_0, xsc5_1, xsc5_2, xsc5_3, xsc5_4, xsc5_5, xsc5_6, xsc5_7⟩ xst5_CanNot (isE_cons ya6_0 ⟨xsc6_0, xsc6_1, xsc6_2, xsc6_3, xsc6_4, xsc6_5, xsc6_6, xsc6_7⟩ xst6_CanNot (isE_cons xa7 ⟨xsc7_0, xsc7_1, xsc7_2, xsc7_3, xsc7_4, xsc7_5, xsc7_6, xsc7_7⟩ xst7_CanNot isE_nil)))))))),
    is_NoPlace := (isE_cons xa0 ⟨xsc0_0, xsc0_1, xsc0_2, xsc0_3, xsc0_4, xsc0_5, xsc0_6, xsc0_7⟩ xst0_NoPlace (isE_cons ya1_0 ⟨xsc1_0, xsc1_1, xsc1_2, xsc1_3, xsc1_4, xsc1_5, xsc1_6, xsc1_7⟩ xst1_NoPlace (isE_cons xa2 ⟨xsc2_0, xsc2_1, xsc2_2, xsc2_3, xsc2_4, xsc2_5, xsc2_6, xsc2_7⟩ xst2_NoPlace (isE_cons ya3_0 ⟨xsc3_0, xsc3_1, xsc3_2, xsc3_3, xsc3_4, xsc3_5, xsc3_6, xsc3_7⟩ xst3_NoPlace (isE_cons ya4_0 ⟨xsc4_0, xsc4_1, xsc4_2, xsc4_3, xsc4_4, xsc4_5, xsc4_6, xsc4_7⟩ xst4_NoPlace (isE_cons xa5 ⟨xsc5_0, xsc5_1, xsc5_2, xsc5_3, xsc5_4, xsc5_5, xsc5_6, xsc5_7⟩ xst5_NoPlace (isE_cons ya6_0 ⟨xsc6_0, xsc6_1, xsc6_2, xsc6_3, xsc6_4, xsc6_5, xsc6_6, xsc6_7⟩ xst6_NoPlace (isE_cons xa7 ⟨xsc7_0, xsc7_1, xsc7_2, xsc7_3, xsc7_4, xsc7_5, xsc7_6, xsc7_7⟩ xst7_NoPlace isE_nil)))))))),
    is_Unfit := (isE_cons xa0 ⟨xsc0_0, xsc0_1, xsc0_2, xsc0_3, xsc0_4, xsc0_5, xsc0_6, xsc0_7⟩ xst0_Unfit (isE_cons ya1_0 ⟨xsc1_0, xsc1_1, xsc1_2, xsc1_3, xsc1_4, xsc1_5, xsc1_6, xsc1_7⟩ xst1_Unfit (isE_cons xa2 ⟨xsc2_0, xsc2_1, xsc2_2, xsc2_3, xsc2_4, xsc2_5, xsc2_6, xsc2_7⟩ xst2_Unfit (isE_cons ya3_0 ⟨xsc3_0, xsc3_1, xsc3_2, xsc3_3, xsc3_4, xsc3_5, xsc3_6, xsc3_7⟩ xst3_Unfit (isE_cons ya4_0 ⟨xsc4_0, xsc4_1, xsc4_2, xsc4_3, xsc4_4, xsc4_5, xsc4_6, xsc4_7⟩ xst4_Unfit (isE_cons xa5 ⟨xsc5_0, xsc5_1, xsc5_2, xsc5_3, xsc5_4, xsc5_5, xsc5_6, xsc5_7⟩ xst5_Unfit (isE_cons ya6_0 ⟨xsc6_0, xsc6_1, xsc6_2, xsc6_3, xsc6_4, xsc6_5, xsc6_6, xsc6_7⟩ xst6_Unfit (isE_cons xa7 ⟨xsc7_0, xsc7_1, xsc7_2, xsc7_3, xsc7_4, xsc7_5, xsc7_6, xsc7_7⟩ xst7_Unfit isE_nil)))))))),
    is_NoNumber := (isE_cons xa0 ⟨xsc0_0, xsc0_1, xsc0_2, xsc0_3, xsc0_4, xsc0_5, xsc0_6, xsc0_7⟩ xst0_NoNumber (isE_cons ya1_0 ⟨xsc1_0, xsc1_1, xsc1_2, xsc1_3, xsc1_4, xsc1_5, xsc1_6, xsc1_7⟩ xst1_NoNumber (isE_cons xa2 ⟨xsc2_0, xsc2_1, xsc2_2, xsc2_3, xsc2_4, xsc2_5, xsc2_6, xsc2_7⟩ xst2_NoNumber (isE_cons ya3_0 ⟨xsc3_0, xsc3_1, xsc3_2, xsc3_3, xsc3_4, xsc3_5, xsc3_6, xsc3_7⟩ xst3_NoNumber (isE_cons ya4_0 ⟨xsc4_0, xsc4_1, xsc4_2, xsc4_3, xsc4_4, xsc4_5, xsc4_6, xsc4_7⟩ xst4_NoNumber (isE_cons xa5 ⟨xsc5_0, xsc5_1, xsc5_2, xsc5_3, xsc5_4, xsc5_5, xsc5_6, xsc5_7⟩ xst5_NoNumber (isE_cons ya6_0 ⟨xsc6_0, xsc6_1, xsc6_2, xsc6_3, xsc6_4, xsc6_5, xsc6_6, xsc6_7⟩ xst6_NoNumber (isE_cons xa7 ⟨xsc7_0, xsc7_1, xsc7_2, xsc7_3, xsc7_4, xsc7_5, xsc7_6, xsc7_7⟩ xst7_NoNumber isE_nil)))))))),
    is_NoCell := (isE_cons xa0 ⟨xsc0_0, xsc0_1, xsc0_2, xsc0_3, xsc0_4, xsc0_5, xsc0_6, xsc0_7⟩ xst0_NoCell (isE_cons ya1_0 ⟨xsc1_0, xsc1_1, xsc1_2, xsc1_3, xsc1_4, xsc1_5, xsc1_6, xsc1_7⟩ xst1_NoCell (isE_cons xa2 ⟨xsc2_0, xsc2_1, xsc2_2, xsc2_3, xsc2_4, xsc2_5, xsc2_6, xsc2_7⟩ xst2_NoCell (isE_cons ya3_0 ⟨xsc3_0, xsc3_1, xsc3_2, xsc3_3, xsc3_4, xsc3_5, xsc3_6, xsc3_7⟩ xst3_NoCell (isE_cons ya4_0 ⟨xsc4_0, xsc4_1, xsc4_2, xsc4_3, xsc4_4, xsc4_5, xsc4_6, xsc4_7⟩ xst4_NoCell (isE_cons xa5 ⟨xsc5_0, xsc5_1, xsc5_2, xsc5_3, xsc5_4, xsc5_5, xsc5_6, xsc5_7⟩ xst5_NoCell (isE_cons ya6_0 ⟨xsc6_0, xsc6_1, xsc6_2, xsc6_3, xsc6_4, xsc6_5, xsc6_6, xsc6_7⟩ xst6_NoCell (isE_cons xa7 ⟨xsc7_0, xsc7_1, xsc7_2, xsc7_3, xsc7_4, xsc7_5, xsc7_6, xsc7_7⟩ xst7_NoCell isE_nil)))))))),
    is_NothingDone := (isE_cons xa0 ⟨xsc0_0, xsc0_1, xsc0_2, xsc0_3, xsc0_4, xsc0_5, xsc0_6, xsc0_7⟩ xst0_NothingDone (isE_cons ya1_0 ⟨xsc1_0, xsc1_1, xsc1_2, xsc1_3, xsc1_4, xsc1_5, xsc1_6, xsc1_7⟩ xst1_NothingDone (isE_cons xa2 ⟨xsc2_0, xsc2_1, xsc2_2, xsc2_3, xsc2_4, xsc2_5, xsc2_6, xsc2_7⟩ xst2_NothingDone (isE_cons ya3_0 ⟨xsc3_0, xsc3_1, xsc3_2, xsc3_3, xsc3_4, xsc3_5, xsc3_6, xsc3_7⟩ xst3_NothingDone (isE_cons ya4_0 ⟨xsc4_0, xsc4_1, xsc4_2, xsc4_3, xsc4_4, xsc4_5, xsc4_6, xsc4_7⟩ xst4_NothingDone (isE_cons xa5 ⟨xsc5_0, xsc5_1, xsc5_2, xsc5_3, xsc5_4, xsc5_5, xsc5_6, xsc5_7⟩ xst5_NothingDone (isE_cons ya6_0 ⟨xsc6_0, xsc6_1, xsc6_2, xsc6_3, xsc6_4, xsc6_5, xsc6_6, xsc6_7⟩ xst6_NothingDone (isE_cons xa7 ⟨xsc7_0, xsc7_1, xsc7_2, xsc7_3, xsc7_4, xsc7_5, xsc7_6, xsc7_7⟩ xst7_NothingDone isE_nil)))))))),
    is_BadLine := (isE_cons xa0 ⟨xsc0_0, xsc0_1, xsc0_2, xsc0_3, xsc0_4, xsc0_5, xsc0_6, xsc0_7⟩ xst0_BadLine (isE_cons ya1_0 ⟨xsc1_0, xsc1_1, xsc1_2, xsc1_3, xsc1_4, xsc1_5, xsc1_6, xsc1_7⟩ xst1_BadLine (isE_cons xa2 ⟨xsc2_0, xsc2_1, xsc2_2, xsc2_3, xsc2_4, xsc2_5, xsc2_6, xsc2_7⟩ xst2_BadLine (isE_cons ya3_0 ⟨xsc3_0, xsc3_1, xsc3_2, xsc3_3, xsc3_4, xsc3_5, xsc3_6, xsc3_7⟩ xst3_BadLine (isE_cons ya4_0 ⟨xsc4_0, xsc4_1, xsc4_2, xsc4_3, xsc4_4, xsc4_5, xsc4_6, xsc4_7⟩ xst4_BadLine (isE_cons xa5 ⟨xsc5_0, xsc5_1, xsc5_2, xsc5_3, xsc5_4, xsc5_5, xsc5_6, xsc5_7⟩ xst5_BadLine (isE_cons ya6_0 ⟨xsc6_0, xsc6_1, xsc6_2, xsc6_3, xsc6_4, xsc6_5, xsc6_6, xsc6_7⟩ xst6_BadLine (isE_cons xa7 ⟨xsc7_0, xsc7_1, xsc7_2, xsc7_3, xsc7_4, xsc7_5, xsc7_6, xsc7_7⟩ xst7_BadLine isE_nil)))))))),
    is_TooMany := (isE_cons xa0 ⟨xsc0_0, xsc0_1, xsc0_2, xsc0_3, xsc0_4, xsc0_5, xsc0_6, xsc0_7⟩ xst0_TooMany (isE_cons ya1_0 ⟨xsc1_0, xsc1_1, xsc1_2, xsc1_3, xsc1_4, xsc1_5, xsc1_6, xsc1_7⟩ xst1_TooMany (isE_cons xa2 ⟨xsc2_0, xsc2_1, xsc2_2, xsc2_3, xsc2_4, xsc2_5, xsc2_6, xsc2_7⟩ xst2_TooMany (isE_cons ya3_0 ⟨xsc3_0, xsc3_1, xsc3_2, xsc3_3, xsc3_4, xsc3_5, xsc3_6, xsc3_7⟩ xst3_TooMany (isE_cons ya4_0 ⟨xsc4_0, xsc4_1, xsc4_2, xsc4_3, xsc4_4, xsc4_5, xsc4_6, xsc4_7⟩ xst4_TooMany (isE_cons xa5 ⟨xsc5_0, xsc5_1, xsc5_2, xsc5_3, xsc5_4, xsc5_5, xsc5_6, xsc5_7⟩ xst5_TooMany (isE_cons ya6_0 ⟨xsc6_0, xsc6_1, xsc6_2, xsc6_3, xsc6_4, xsc6_5, xsc6_6, xsc6_7⟩ xst6_TooMany (isE_cons xa7 ⟨xsc7_0, xsc7_1, xsc7_2, xsc7_3, xsc7_4, xsc7_5, xsc7_6, xsc7_7⟩ xst7_TooMany isE_nil)))))))),
    is_KeyError := (isE_cons xa0 ⟨xsc0_0, xsc0_1, xsc0_2, xsc0_3, xsc0_4, xsc0_5, xsc0_6, xsc0_7⟩ xst0_KeyError (isE_cons ya1_0 ⟨xsc1_0, xsc1_1, xsc1_2, xsc1_3, xsc1_4, xsc1_5, xsc1_6, xsc1_7⟩ xst1_KeyError (isE_cons xa2 ⟨xsc2_0, xsc2_1, xsc2_2, xsc2_3, xsc2_4, xsc2_5, xsc2_6, xsc2_7⟩ xst2_KeyError (isE_cons ya3_0 ⟨xsc3_0, xsc3_1, xsc3_2, xsc3_3, xsc3_4, xsc3_5, xsc3_6, xsc3_7⟩ xst3_KeyError (isE_cons ya4_0 ⟨xsc4_0, xsc4_1, xsc4_2, xsc4_3, xsc4_4, xsc4_5, xsc4_6, xsc4_7⟩ xst4_KeyError (isE_cons xa5 ⟨xsc5_0, xsc5_1, xsc5_2, xsc5_3, xsc5_4, xsc5_5, xsc5_6, xsc5_7⟩ xst5_KeyError (isE_cons ya6_0 ⟨xsc6_0, xsc6_1, xsc6_2, xsc6_3, xsc6_4, xsc6_5, xsc6_6, xsc6_7⟩ xst6_KeyError (isE_cons xa7 ⟨xsc7_0, xsc7_1, xsc7_2, xsc7_3, xsc7_4, xsc7_5, xsc7_6, xsc7_7⟩ xst7_KeyError isE_nil)))))))),
    is_AttributeError := (isE_cons xa0 ⟨xsc0_0, xsc0_1, xsc0_2, xsc0_3, xsc0_4, xsc0_5, xsc0_6, xsc0_7⟩ xst0_AttributeError (isE_cons ya1_0 ⟨xsc1_0, xsc1_1, xsc1_2, xsc1_3, xsc1_4, xsc1_5, xsc1_6, xsc1_7⟩ xst1_AttributeError (isE_cons xa2 ⟨xsc2_0, xsc2_1, xsc2_2, xsc2_3, xsc2_4, xsc2_5, xsc2_6, xsc2_7⟩ xst2_AttributeError (isE_cons ya3_0 ⟨xsc3_0, xsc3_1, xsc3_2, xsc3_3, xsc3_4, xsc3_5, xsc3_6, xsc3_7⟩ xst3_AttributeError (isE_cons ya4_0 ⟨xsc4_0, xsc4_1, xsc4_2, xsc4_3, xsc4_4, xsc4_5, xsc4_6, xsc4_7⟩ xst4_AttributeError (isE_cons xa5 ⟨xsc5_0, xsc5_1, xsc5_2, xsc5_3, xsc5_4, xsc5_5, xsc5_6, xsc5_7⟩ xst5_AttributeError (isE_cons ya6_0 ⟨xsc6_0, xsc6_1, xsc6_2, xsc6_3, xsc6_4, xsc6_5, xsc6_6, xsc6_7⟩ xst6_AttributeError (isE_cons xa7 ⟨xsc7_0, xsc7_1, xsc7_2, xsc7_3, xsc7_4, xsc7_5, xsc7_6, xsc7_7⟩ xst7_AttributeError isE_nil)))))))),
    is_LookupError := (isE_cons xa0 ⟨xsc0_0, xsc0_1, xsc0_2, xsc0_3, xsc0_4, xsc0_5, xsc0_6, xsc0_7⟩ xst0_LookupError (isE_cons ya1_0 ⟨xsc1_0, xsc1_1, xsc1_2, xsc1_3, xsc1_4, xsc1_5, xsc1_6, xsc1_7⟩ xst1_LookupError (isE_cons xa2 ⟨xsc2_0, xsc2_1, xsc2_2, xsc2_3, xsc2_4, xsc2_5, xsc2_6, xsc2_7⟩ xst2_LookupError (isE_cons ya3_0 ⟨xsc3_0, xsc3_1, xsc3_2, xsc3_3, xsc3_4, xsc3_5, xsc3_6, xsc3_7⟩ xst3_LookupError (isE_cons ya4_0 ⟨xsc4_0, xsc4_1, xsc4_2, xsc4_3, xsc4_4, xsc4_5, xsc4_6, xsc4_7⟩ xst4_LookupError (isE_cons xa5 ⟨xsc5_0, xsc5_1, xsc5_2, xsc5_3, xsc5_4, xsc5_5, xsc5_6, xsc5_7⟩ xst5_LookupError (isE_cons ya6_0 ⟨xsc6_0, xsc6_1, xsc6_2, xsc6_3, xsc6_4, xsc6_5, xsc6_6, xsc6_7⟩ xst6_LookupError (isE_cons xa7 ⟨xsc7_0, xsc7_1, xsc7_2, xsc7_3, xsc7_4, xsc7_5, xsc7_6, xsc7_7⟩ xst7_LookupError isE_nil)))))))),
    is_IndexError := (isE_cons xa0 ⟨xsc0_0, xsc0_1, xsc0_2, xsc0_3, xsc0_4, xsc0_5, xsc0_6, xsc0_7⟩ xst0_IndexError (isE_cons ya1_0 ⟨xsc1_0, xsc1_1, xsc1_2, xsc1_3, xsc1_4, xsc1_5, xsc1_6, xsc1_7⟩ xst1_IndexError (isE_cons xa2 ⟨xsc2_0, xsc2_1, xsc2_2, xsc2_3, xsc2_4, xsc2_5, xsc2_6, xsc2_7⟩ xst2_IndexError (isE_cons ya3_0 ⟨xsc3_0, xsc3_1, xsc3_2, xsc3_3, xsc3_4, xsc3_5, xsc3_6, xsc3_7⟩ xst3_IndexError (isE_cons ya4_0 ⟨xsc4_0, xsc4_1, xsc4_2, xsc4_3, xsc4_4, xsc4_5, xsc4_6, xsc4_7⟩ xst4_IndexError (isE_cons xa5 ⟨xsc5_0, xsc5_1, xsc5_2, xsc5_3, xsc5_4, xsc5_5, xsc5_6, xsc5_7⟩ xst5_IndexError (isE_cons ya6_0 ⟨xsc6_0, xsc6_1, xsc6_2, xsc6_3, xsc6_4, xsc6_5, xsc6_6, xsc6_7⟩ xst6_IndexError (isE_cons xa7 ⟨xsc7_0, xsc7_1, xsc7_2, xsc7_3, xsc7_4, xsc7_5, xsc7_6, xsc7_7⟩ xst7_IndexError isE_nil)))))))),
    is_Exception := (isE_cons xa0 ⟨xsc0_0, xsc0_1, xsc0_2, xsc0_3, xsc0_4, xsc0_5, xsc0_6, xsc0_7⟩ xst0_Exception (isE_cons ya1_0 ⟨xsc1_0, xsc1_1, xsc1_2, xsc1_3, xsc1_4, xsc1_5, xsc1_6, xsc1_7⟩ xst1_Exception (isE_cons xa2 ⟨xsc2_0, xsc2_1, xsc2_2, xsc2_3, xsc2_4, xsc2_5, xsc2_6, xsc2_7⟩ xst2_Exception (isE_cons ya3_0 ⟨xsc3_0, xsc3_1, xsc3_2, xsc3_3, xsc3_4, xsc3_5, xsc3_6, xsc3_7⟩ xst3_Exception (isE_cons ya4_0 ⟨xsc4_0, xsc4_1, xsc4_2, xsc4_3, xsc4_4, xsc4_5, xsc4_6, xsc4_7⟩ xst4_Exception (isE_cons xa5 ⟨xsc5_0, xsc5_1, xsc5_2, xsc5_3, xsc5_4, xsc5_5, xsc5_6, xsc5_7⟩ xst5_Exception (isE_cons ya6_0 ⟨xsc6_0, xsc6_1, xsc6_2, xsc6_3, xsc6_4, xsc6_5, xsc6_6, xsc6_7⟩ xst6_Exception (isE_cons xa7 ⟨xsc7_0, xsc7_1, xsc7_2, xsc7_3, xsc7_4, xsc7_5, xsc7_6, xsc7_7⟩ xst7_Exception isE_nil)))))))),
    is_TypeError := (isE_cons xa0 ⟨xsc0_0, xsc0_1, xsc0_2, xsc0_3, xsc0_4, xsc0_5, xsc0_6, xsc0_7⟩ xst0_TypeError (isE_cons ya1_0 ⟨xsc1_0, xsc1_1, xsc1_2, xsc1_3, xsc1_4, xsc1_5, xsc1_6, xsc1_7⟩ xst1_TypeError (isE_cons xa2 ⟨xsc2_0, xsc2_1, xsc2_2, xsc2_3, xsc2_4, xsc2_5, xsc2_6, xsc2_7⟩ xst2_TypeError (isE_cons ya3_0 ⟨xsc3_0, xsc3_1, xsc3_2, xsc3_3, xsc3_4, xsc3_5, xsc3_6, xsc3_7⟩ xst3_TypeError (isE_cons ya4_0 ⟨xsc4_0, xsc4_1, xsc4_2, xsc4_3, xsc4_4, xsc4_5, xsc4_6, xsc4_7⟩ xst4_TypeError (isE_cons xa5 ⟨xsc5_0, xsc5_1, xsc5_2, xsc5_3, xsc5_4, xsc5_5, xsc5_6, xsc5_7⟩ xst5_TypeError (isE_cons ya6_0 ⟨xsc6_0, xsc6_1, xsc6_2, xsc6_3, xsc6_4, xsc6_5, xsc6_6, xsc6_7⟩ xst6_TypeError (isE_cons xa7 ⟨xsc7_0, xsc7_1, xsc7_2, xsc7_3, xsc7_4, xsc7_5, xsc7_6, xsc7_7⟩ xst7_TypeError isE_nil)))))))),
    is_RuntimeError := (isE_cons xa0 ⟨xsc0_0, xsc0_1, xsc0_2, xsc0_3, xsc0_4, xsc0_5, xsc0_6, xsc0_7⟩ xst0_RuntimeError (isE_cons ya1_0 ⟨xsc1_0, xsc1_1, xsc1_2, xsc1_3, xsc1_4, xsc1_5, xsc1_6, xsc1_7⟩ xst1_RuntimeError (isE_cons xa2 ⟨xsc2_0, xsc2_1, xsc2_2, xsc2_3, xsc2_4, xsc2_5, xsc2_6, xsc2_7⟩ xst2_RuntimeError (isE_cons ya3_0 ⟨xsc3_0, xsc3_1, xsc3_2, xsc3_3, xsc3_4, xsc3_5, xsc3_6, xsc3_7⟩ xst3_RuntimeError (isE_cons ya4_0 ⟨xsc4_0, xsc4_1, xsc4_2, xsc4_3, xsc4_4, xsc4_5, xsc4_6, xsc4_7⟩ xst4_RuntimeError (isE_cons xa5 ⟨xsc5_0, xsc5_1, xsc5_2, xsc5_3, xsc5_4, xsc5_5, xsc5_6, xsc5_7⟩ xst5_RuntimeError (isE_cons ya6_0 ⟨xsc6_0, xsc6_1, xsc6_2, xsc6_3, xsc6_4, xsc6_5, xsc6_6, xsc6_7⟩ xst6_RuntimeError (isE_cons xa7 ⟨xsc7_0, xsc7_1, xsc7_2, xsc7_3, xsc7_4, xsc7_5, xsc7_6, xsc7_7⟩ xst7_RuntimeError isE_nil)))))))),
    is_ValueError := (isE_cons xa0 ⟨xsc0_0, xsc0_1, xsc0_2, xsc0_3, xsc0_4, xsc0_5, xsc0_6, xsc0_7⟩ xst0_ValueError (isE_cons ya1_0 ⟨xsc1_0, xsc1_1, xsc1_2, xsc1_3, xsc1_4, xsc1_5, xsc1_6, xsc1_7⟩ xst1_ValueError (isE_cons xa2 ⟨xsc2_0, xsc2_1, xsc2_2, xsc2_3, xsc2_4, xsc2_5, xsc2_6, xsc2_7⟩ xst2_ValueError (isE_cons ya3_0 ⟨xsc3_0, xsc3_1, xsc3_2, xsc3_3, xsc3_4, xsc3_5, xsc3_6, xsc3_7⟩ xst3_ValueError (isE_cons ya4_0 ⟨xsc4_0, xsc4_1, xsc4_2, xsc4_3, xsc4_4, xsc4_5, xsc4_6, xsc4_7⟩ xst4_ValueError (isE_cons xa5 ⟨xsc5_0, xsc5_1, xsc5_2, xsc5_3, xsc5_4, xsc5_5, xsc5_6, xsc5_7⟩ xst5_ValueError (isE_cons ya6_0 ⟨xsc6_0, xsc6_1, xsc6_2, xsc6_3, xsc6_4, xsc6_5, xsc6_6, xsc6_7⟩ xst6_ValueError (isE_cons xa7 ⟨xsc7_0, xsc7_1, xsc7_2, xsc7_3, xsc7_4, xsc7_5, xsc7_6, xsc7_7⟩ xst7_ValueError isE_nil)))))))) }
  exact law_fn (fun base => (tp (P := l.prog) (w := w) (base := base) N KK).c522) l522 (PySem.W.mg_of X G a522) fun s v => .of_eq rfl
end Kx
set_option Elab.async false
set_option linter.all false
set_option maxRecDepth 100000
set_option maxHeartbeats 4000000
open PySem PySem.W PyProof.Rows
set_option maxRecDepth 100000 in
set_option maxHeartbeats 0 in
theorem PySem.Challenge.cw_notinvain_k00_errors_made_by_hand_holds : PySem.Challenge.rw_notinvain_k00_errors_made_by_hand.Holds := by
  w_on; o_law; k_head; (case hw => w_witness2)
  k_fill
  refine Q.walkQ (l := PySem.Challenge.rw_notinvain_k00_errors_made_by_hand) (k := Kx.KK) (y := "_law_script") (run := Kx.run7 Kx.KK 522) rfl rfl ⟨rfl, by decide, by decide⟩ (fun w h Y => PySem.W.kIn_of Y) ?F Kx.law00_true
  case F =>
    intro w mg fa h KX G hmg
    refine' Kx.mk KX G hmg ?a517 ?l517 ?c517 ?k517 ?a12 ?l12 ?c12 ?k12 ?a13 ?l13 ?c13 ?k13 ?a14 ?l14 ?c14 ?k14 ?a17 ?l17 ?c17 ?k17 ?a518 ?l518 ?c518 ?k518 ?a519 ?l519 ?c519 ?k519 ?a520 ?l520 ?c520 ?k520 ?a521 ?l521 ?c521 ?k521 ?a522 ?l522 ?c522 ?k522 ?z0 ?z1 ?z2 ?z3 ?z4 ?z5 ?z6 ?z7 ?z8 ?z9 ?z10 ?z11 ?z12 ?z13 ?z14 ?z15 ?z16 ?z17 ?z18 ?z19 ?xa0 ?xk0 ?xe0 ?xt0 ?xi0 ?xs0 ?xq0 ?xa2 ?xk2 ?xe2 ?xt2 ?xi2 ?xs2 ?xq2 ?xa5 ?xk5 ?xe5 ?xt5 ?xi5 ?xs5 ?xq5 ?xa7 ?xk7 ?xe7 ?xt7 ?xi7 ?xs7 ?xq7 ?ya1_0 ?ya1_1 ?ya1_2 ?ya1_3 ?ya1_4 ?ya1_5 ?ya1_6 ?ya1_7 ?ya1_8 ?ya1_9 ?ya1_10 ?ya1_11 ?ya1_12 ?ya1_13 ?ya1_14 ?ya1_15 ?ya1_16 ?ya1_17 ?ya1_18 ?ya1_19 ?ya1_20 ?ya1_21 ?ya1_22 ?ya3_0 ?ya3_1 ?ya3_2 ?ya3_3 ?ya3_4 ?ya3_5 ?ya3_6 ?ya3_7 ?ya3_8 ?ya3_9 ?ya3_10 ?ya3_11 ?ya3_12 ?ya3_13 ?ya3_14 ?ya3_15 ?ya3_16 ?ya3_17 ?ya3_18 ?ya3_19 ?ya3_20 ?ya3_21 ?ya3_22 ?ya4_0 ?ya4_1 ?ya4_2 ?ya4_3 ?ya4_4 ?ya4_5 ?ya4_6 ?ya4_7 ?ya4_8 ?ya4_9 ?ya4_10 ?ya4_11 ?ya4_12 ?ya4_13 ?ya4_14 ?ya4_15 ?ya4_16 ?ya4_17 ?ya4_18 ?ya4_19 ?ya4_20 ?ya4_21 ?ya4_22 ?ya6_0 ?ya6_1 ?ya6_2 ?ya6_3 ?ya6_4 ?ya6_5 ?ya6_6 ?ya6_7 ?ya6_8 ?ya6_9 ?ya6_10 ?ya6_11 ?ya6_12 ?ya6_13 ?ya6_14 ?ya6_15 ?ya6_16 ?ya6_17 ?ya6_18 ?ya6_19 ?ya6_20 ?ya6_21 ?ya6_22 ?yb1_0 ?yb1_1 ?yb1_2 ?yb3_0 ?yb3_1 ?yb3_2 ?yb4_0 ?yb4_1 ?yb4_2 ?yb6_0 ?yb6_1 ?yb6_2 ?xsc0_0 ?xsc0_1 ?xsc0_2 ?xsc0_3 ?xsc0_4 ?xsc0_5 ?xsc0_6 ?xsc0_7 ?xsc1_0 ?xsc1_1 ?xsc1_2 ?xsc1_3 ?xsc1_4 ?xsc1_5 ?xsc1_6 ?xsc1_7 ?xsc2_0 ?xsc2_1 ?xsc2_2 ?xsc2_3 ?xsc2_4 ?xsc2_5 ?xsc2_6 ?xsc2_7 ?xsc3_0 ?xsc3_1 ?xsc3_2 ?xsc3_3 ?xsc3_4 ?xsc3_5 ?xsc3_6 ?xsc3_7 ?xsc4_0 ?xsc4_1 ?xsc4_2 ?xsc4_3 ?xsc4_4 ?xsc4_5 ?xsc4_6 ?xsc4_7 ?xsc5_0 ?xsc5_1 ?xsc5_2 ?xsc5_3 ?xsc5_4 ?xsc5_5 ?xsc5_6 ?xsc5_7 ?xsc6_0 ?xsc6_1 ?xsc6_2 ?xsc6_3 ?xsc6_4 ?xsc6_5 ?xsc6_6 ?xsc6_7 ?xsc7_0 ?xsc7_1 ?xsc7_2 ?xsc7_3 ?xsc7_4 ?xsc7_5 ?xsc7_6 ?xsc7_7 ?xst7_CanNot ?xst6_CanNot ?xst5_CanNot ?xst4_CanNot ?xst3_CanNot ?xst2_CanNot ?xst1_CanNot ?xst0_CanNot ?xst7_NoPlace ?xst6_NoPlace ?xst5_NoPlace ?xst4_NoPlace ?xst3_NoPlace ?xst2_NoPlace ?xst1_NoPlace ?xst0_NoPlace ?xst7_Unfit ?xst6_Unfit ?xst5_Unfit ?xst4_Unfit ?xst3_Unfit ?xst2_Unfit ?xst1_Unfit ?xst0_Unfit ?xst7_NoNumber ?xst6_NoNumber ?xst5_NoNumber ?xst4_NoNumber ?xst3_NoNumber ?xst2_NoNumber ?xst1_NoNumber ?xst0_NoNumber ?xst7_NoCell ?xst6_NoCell ?xst5_NoCell ?xst4_NoCell ?xst3_NoCell ?xst2_NoCell ?xst1_NoCell ?xst0_NoCell ?xst7_NothingDone ?xst6_NothingDone ?xst5_NothingDone ?xst4_NothingDone ?xst3_NothingDone ?xst2_NothingDone ?xst1_NothingDone ?xst0_NothingDone ?xst7_BadLine ?xst6_BadLine ?xst5_BadLine ?xst4_BadLine ?xst3_BadLine ?xst2_BadLine ?xst1_BadLine ?xst0_BadLine ?xst7_TooMany ?xst6_TooMany ?xst5_TooMany ?xst4_TooMany ?xst3_TooMany ?xst2_TooMany ?xst1_TooMany ?xst0_TooMany ?xst7_KeyError ?xst6_KeyError ?xst5_KeyError ?xst4_KeyError ?xst3_KeyError ?xst2_KeyError ?xst1_KeyError ?xst0_KeyError ?xst7_AttributeError ?xst6_AttributeError ?xst5_AttributeError ?xst4_AttributeError ?xst3_AttributeError ?xst2_AttributeError ?xst1_AttributeError ?xst0_AttributeError ?xst7_LookupError ?xst6_LookupError ?xst5_LookupError ?xst4_LookupError ?xst3_LookupError ?xst2_LookupError ?xst1_LookupError ?xst0_LookupError ?xst7_IndexError ?xst6_IndexError ?xst5_IndexError ?xst4_IndexError ?xst3_IndexError ?xst2_IndexError ?xst1_IndexError ?xst0_IndexError ?xst7_Exception ?xst6_Exception ?xst5_Exception ?xst4_Exception ?xst3_Exception ?xst2_Exception ?xst1_Exception ?xst0_Exception ?xst7_TypeError ?xst6_TypeError ?xst5_TypeError ?xst4_TypeError ?xst3_TypeError ?xst2_TypeError ?xst1_TypeError ?xst0_TypeError ?xst7_RuntimeError ?xst6_RuntimeError ?xst5_RuntimeError ?xst4_RuntimeError ?xst3_RuntimeError ?xst2_RuntimeError ?xst1_RuntimeError ?xst0_RuntimeError ?xst7_ValueError ?xst6_ValueError ?xst5_ValueError ?xst4_ValueError ?xst3_ValueError ?xst2_ValueError ?xst1_ValueError ?xst0_ValueError
    (case a517 => k_is); (case l517 => k_is); (case c517 => k_is); (case k517 => k_is); (case a12 => k_is); (case l12 => k_is); (case c12 => k_is); (case k12 => k_is)
    (case a13 => k_is); (case l13 => k_is); (case c13 => k_is); (case k13 => k_is); (case a14 => k_is); (case l14 => k_is); (case c14 => k_is); (case k14 => k_is)
    (case a17 => k_is); (case l17 => k_is); (case c17 => k_is); (case k17 => k_is); (case a518 => k_is); (case l518 => k_is); (case c518 => k_is); (case k518 => k_is)
    (case a519 => k_is); (case l519 => k_is); (case c519 => k_is); (case k519 => k_is); (case a520 => k_is); (case l520 => k_is); (case c520 => k_is); (case k520 => k_is)
    (case a521 => k_is); (case l521 => k_is); (case c521 => k_is); (case k521 => k_is); (case a522 => k_is); (case l522 => k_is); (case c522 => k_is); (case k522 => k_is)
    (case z0 => k_is); (case z1 => k_is); (case z2 => k_is); (case z3 => k_is); (case z4 => k_is); (case z5 => k_is); (case z6 => k_is); (case z7 => k_is)
    (case z8 => k_is); (case z9 => k_is); (case z10 => k_is); (case z11 => k_is); (case z12 => k_is); (case z13 => k_is); (case z14 => k_is); (case z15 => k_is)
    (case z16 => k_is); (case z17 => k_is); (case z18 => k_is); (case z19 => k_is); (case xa0 => k_is); (case xk0 => k_is); (case xe0 => k_is); (case xt0 => k_is)
    (case xi0 => k_is); (case xs0 => first | rfl | k_is); (case xq0 => k_exc); (case xa2 => k_is); (case xk2 => k_is); (case xe2 => k_is); (case xt2 => k_is); (case xi2 => k_is)
    (case xs2 => first | rfl | k_is); (case xq2 => k_exc); (case xa5 => k_is); (case xk5 => k_is); (case xe5 => k_is); (case xt5 => k_is); (case xi5 => k_is); (case xs5 => first | rfl | k_is)
    (case xq5 => k_exc); (case xa7 => k_is); (case xk7 => k_is); (case xe7 => k_is); (case xt7 => k_is); (case xi7 => k_is); (case xs7 => first | rfl | k_is); (case xq7 => k_exc)
    (case ya1_0 => first | rfl | k_is); (case ya1_1 => first | rfl | k_is); (case ya1_2 => first | rfl | k_is); (case ya1_3 => first | rfl | k_is); (case ya1_4 => first | rfl | k_is); (case ya1_5 => first | rfl | k_is); (case ya1_6 => first | rfl | k_is); (case ya1_7 => first | rfl | k_is)
    (case ya1_8 => first | rfl | k_is); (case ya1_9 => first | rfl | k_is); (case ya1_10 => first | rfl | k_is); (case ya1_11 => first | rfl | k_is); (case ya1_12 => first | rfl | k_is); (case ya1_13 => first | rfl | k_is); (case ya1_14 => first | rfl | k_is); (case ya1_15 => first | rfl | k_is)
    (case ya1_16 => first | rfl | k_is); (case ya1_17 => first | rfl | k_is); (case ya1_18 => first | rfl | k_is); (case ya1_19 => first | rfl | k_is); (case ya1_20 => first | rfl | k_is); (case ya1_21 => first | rfl | k_is); (case ya1_22 => first | rfl | k_is); (case ya3_0 => first | rfl | k_is)
    (case ya3_1 => first | rfl | k_is); (case ya3_2 => first | rfl | k_is); (case ya3_3 => first | rfl | k_is); (case ya3_4 => first | rfl | k_is); (case ya3_5 => first | rfl | k_is); (case ya3_6 => first | rfl | k_is); (case ya3_7 => first | rfl | k_is); (case ya3_8 => first | rfl | k_is)
    (case ya3_9 => first | rfl | k_is); (case ya3_10 => first | rfl | k_is); (case ya3_11 => first | rfl | k_is); (case ya3_12 => first | rfl | k_is); (case ya3_13 => first | rfl | k_is); (case ya3_14 => first | rfl | k_is); (case ya3_15 => first | rfl | k_is); (case ya3_16 => first | rfl | k_is)
    (case ya3_17 => first | rfl | k_is); (case ya3_18 => first | rfl | k_is); (case ya3_19 => first | rfl | k_is); (case ya3_20 => first | rfl | k_is); (case ya3_21 => first | rfl | k_is); (case ya3_22 => first | rfl | k_is); (case ya4_0 => first | rfl | k_is); (case ya4_1 => first | rfl | k_is)
    (case ya4_2 => first | rfl | k_is); (case ya4_3 => first | rfl | k_is); (case ya4_4 => first | rfl | k_is); (case ya4_5 => first | rfl | k_is); (case ya4_6 => first | rfl | k_is); (case ya4_7 => first | rfl | k_is); (case ya4_8 => first | rfl | k_is); (case ya4_9 => first | rfl | k_is)
    (case ya4_10 => first | rfl | k_is); (case ya4_11 => first | rfl | k_is); (case ya4_12 => first | rfl | k_is); (case ya4_13 => first | rfl | k_is); (case ya4_14 => first | rfl | k_is); (case ya4_15 => first | rfl | k_is); (case ya4_16 => first | rfl | k_is); (case ya4_17 => first | rfl | k_is)
    (case ya4_18 => first | rfl | k_is); (case ya4_19 => first | rfl | k_is); (case ya4_20 => first | rfl | k_is); (case ya4_21 => first | rfl | k_is); (case ya4_22 => first | rfl | k_is); (case ya6_0 => first | rfl | k_is); (case ya6_1 => first | rfl | k_is); (case ya6_2 => first | rfl | k_is)
    (case ya6_3 => first | rfl | k_is); (case ya6_4 => first | rfl | k_is); (case ya6_5 => first | rfl | k_is); (case ya6_6 => first | rfl | k_is); (case ya6_7 => first | rfl | k_is); (case ya6_8 => first | rfl | k_is); (case ya6_9 => first | rfl | k_is); (case ya6_10 => first | rfl | k_is)
    (case ya6_11 => first | rfl | k_is); (case ya6_12 => first | rfl | k_is); (case ya6_13 => first | rfl | k_is); (case ya6_14 => first | rfl | k_is); (case ya6_15 => first | rfl | k_is); (case ya6_16 => first | rfl | k_is); (case ya6_17 => first | rfl | k_is); (case ya6_18 => first | rfl | k_is)
    (case ya6_19 => first | rfl | k_is); (case ya6_20 => first | rfl | k_is); (case ya6_21 => first | rfl | k_is); (case ya6_22 => first | rfl | k_is); (case yb1_0 => k_is); (case yb1_1 => k_is); (case yb1_2 => k_is); (case yb3_0 => k_is)
    (case yb3_1 => k_is); (case yb3_2 => k_is); (case yb4_0 => k_is); (case yb4_1 => k_is); (case yb4_2 => k_is); (case yb6_0 => k_is); (case yb6_1 => k_is); (case yb6_2 => k_is)
    (case xsc0_0 => first | rfl | k_is); (case xsc0_1 => first | rfl | k_is); (case xsc0_2 => first | rfl | k_is); (case xsc0_3 => first | rfl | k_is); (case xsc0_4 => first | rfl | k_is); (case xsc0_5 => first | rfl | k_is); (case xsc0_6 => first | rfl | k_is); (case xsc0_7 => first | rfl | k_is)
    (case xsc1_0 => first | rfl | k_is); (case xsc1_1 => first | rfl | k_is); (case xsc1_2 => first | rfl | k_is); (case xsc1_3 => first | rfl | k_is); (case xsc1_4 => first | rfl | k_is); (case xsc1_5 => first | rfl | k_is); (case xsc1_6 => first | rfl | k_is); (case xsc1_7 => first | rfl | k_is)
    (case xsc2_0 => first | rfl | k_is); (case xsc2_1 => first | rfl | k_is); (case xsc2_2 => first | rfl | k_is); (case xsc2_3 => first | rfl | k_is); (case xsc2_4 => first | rfl | k_is); (case xsc2_5 => first | rfl | k_is); (case xsc2_6 => first | rfl | k_is); (case xsc2_7 => first | rfl | k_is)
    (case xsc3_0 => first | rfl | k_is); (case xsc3_1 => first | rfl | k_is); (case xsc3_2 => first | rfl | k_is); (case xsc3_3 => first | rfl | k_is); (case xsc3_4 => first | rfl | k_is); (case xsc3_5 => first | rfl | k_is); (case xsc3_6 => first | rfl | k_is); (case xsc3_7 => first | rfl | k_is)
    (case xsc4_0 => first | rfl | k_is); (case xsc4_1 => first | rfl | k_is); (case xsc4_2 => first | rfl | k_is); (case xsc4_3 => first | rfl | k_is); (case xsc4_4 => first | rfl | k_is); (case xsc4_5 => first | rfl | k_is); (case xsc4_6 => first | rfl | k_is); (case xsc4_7 => first | rfl | k_is)
    (case xsc5_0 => first | rfl | k_is); (case xsc5_1 => first | rfl | k_is); (case xsc5_2 => first | rfl | k_is); (case xsc5_3 => first | rfl | k_is); (case xsc5_4 => first | rfl | k_is); (case xsc5_5 => first | rfl | k_is); (case xsc5_6 => first | rfl | k_is); (case xsc5_7 => first | rfl | k_is)
    (case xsc6_0 => first | rfl | k_is); (case xsc6_1 => first | rfl | k_is); (case xsc6_2 => first | rfl | k_is); (case xsc6_3 => first | rfl | k_is); (case xsc6_4 => first | rfl | k_is); (case xsc6_5 => first | rfl | k_is); (case xsc6_6 => first | rfl | k_is); (case xsc6_7 => first | rfl | k_is)
    (case xsc7_0 => first | rfl | k_is); (case xsc7_1 => first | rfl | k_is); (case xsc7_2 => first | rfl | k_is); (case xsc7_3 => first | rfl | k_is); (case xsc7_4 => first | rfl | k_is); (case xsc7_5 => first | rfl | k_is); (case xsc7_6 => first | rfl | k_is); (case xsc7_7 => first | rfl | k_is)
    (case xst7_CanNot => first | rfl | k_is); (case xst6_CanNot => first | rfl | k_is); (case xst5_CanNot => first | rfl | k_is); (case xst4_CanNot => first | rfl | k_is); (case xst3_CanNot => first | rfl | k_is); (case xst2_CanNot => first | rfl | k_is); (case xst1_CanNot => first | rfl | k_is); (case xst0_CanNot => first | rfl | k_is)
    (case xst7_NoPlace => first | rfl | k_is); (case xst6_NoPlace => first | rfl | k_is); (case xst5_NoPlace => first | rfl | k_is); (case xst4_NoPlace => first | rfl | k_is); (case xst3_NoPlace => first | rfl | k_is); (case xst2_NoPlace => first | rfl | k_is); (case xst1_NoPlace => first | rfl | k_is); (case xst0_NoPlace => first | rfl | k_is)
    (case xst7_Unfit => first | rfl | k_is); (case xst6_Unfit => first | rfl | k_is); (case xst5_Unfit => first | rfl | k_is); (case xst4_Unfit => first | rfl | k_is); (case xst3_Unfit => first | rfl | k_is); (case xst2_Unfit => first | rfl | k_is); (case xst1_Unfit => first | rfl | k_is); (case xst0_Unfit => first | rfl | k_is)
    (case xst7_NoNumber => first | rfl | k_is); (case xst6_NoNumber => first | rfl | k_is); (case xst5_NoNumber => first | rfl | k_is); (case xst4_NoNumber => first | rfl | k_is); (case xst3_NoNumber => first | rfl | k_is); (case xst2_NoNumber => first | rfl | k_is); (case xst1_NoNumber => first | rfl | k_is); (case xst0_NoNumber => first | rfl | k_is)
    (case xst7_NoCell => first | rfl | k_is); (case xst6_NoCell => first | rfl | k_is); (case xst5_NoCell => first | rfl | k_is); (case xst4_NoCell => first | rfl | k_is); (case xst3_NoCell => first | rfl | k_is); (case xst2_NoCell => first | rfl | k_is); (case xst1_NoCell => first | rfl | k_is); (case xst0_NoCell => first | rfl | k_is)
    (case xst7_NothingDone => first | rfl | k_is); (case xst6_NothingDone => first | rfl | k_is); (case xst5_NothingDone => first | rfl | k_is); (case xst4_NothingDone => first | rfl | k_is); (case xst3_NothingDone => first | rfl | k_is); (case xst2_NothingDone => first | rfl | k_is); (case xst1_NothingDone => first | rfl | k_is); (case xst0_NothingDone => first | rfl | k_is)
    (case xst7_BadLine => first | rfl | k_is); (case xst6_BadLine => first | rfl | k_is); (case xst5_BadLine => first | rfl | k_is); (case xst4_BadLine => first | rfl | k_is); (case xst3_BadLine => first | rfl | k_is); (case xst2_BadLine => first | rfl | k_is); (case xst1_BadLine => first | rfl | k_is); (case xst0_BadLine => first | rfl | k_is)
    (case xst7_TooMany => first | rfl | k_is); (case xst6_TooMany => first | rfl | k_is); (case xst5_TooMany => first | rfl | k_is); (case xst4_TooMany => first | rfl | k_is); (case xst3_TooMany => first | rfl | k_is); (case xst2_TooMany => first | rfl | k_is); (case xst1_TooMany => first | rfl | k_is); (case xst0_TooMany => first | rfl | k_is)
    (case xst7_KeyError => first | rfl | k_is); (case xst6_KeyError => first | rfl | k_is); (case xst5_KeyError => first | rfl | k_is); (case xst4_KeyError => first | rfl | k_is); (case xst3_KeyError => first | rfl | k_is); (case xst2_KeyError => first | rfl | k_is); (case xst1_KeyError => first | rfl | k_is); (case xst0_KeyError => first | rfl | k_is)
    (case xst7_AttributeError => first | rfl | k_is); (case xst6_AttributeError => first | rfl | k_is); (case xst5_AttributeError => first | rfl | k_is); (case xst4_AttributeError => first | rfl | k_is); (case xst3_AttributeError => first | rfl | k_is); (case xst2_AttributeError => first | rfl | k_is); (case xst1_AttributeError => first | rfl | k_is); (case xst0_AttributeError => first | rfl | k_is)
    (case xst7_LookupError => first | rfl | k_is); (case xst6_LookupError => first | rfl | k_is); (case xst5_LookupError => first | rfl | k_is); (case xst4_LookupError => first | rfl | k_is); (case xst3_LookupError => first | rfl | k_is); (case xst2_LookupError => first | rfl | k_is); (case xst1_LookupError => first | rfl | k_is); (case xst0_LookupError => first | rfl | k_is)
    (case xst7_IndexError => first | rfl | k_is); (case xst6_IndexError => first | rfl | k_is); (case xst5_IndexError => first | rfl | k_is); (case xst4_IndexError => first | rfl | k_is); (case xst3_IndexError => first | rfl | k_is); (case xst2_IndexError => first | rfl | k_is); (case xst1_IndexError => first | rfl | k_is); (case xst0_IndexError => first | rfl | k_is)
    (case xst7_Exception => first | rfl | k_is); (case xst6_Exception => first | rfl | k_is); (case xst5_Exception => first | rfl | k_is); (case xst4_Exception => first | rfl | k_is); (case xst3_Exception => first | rfl | k_is); (case xst2_Exception => first | rfl | k_is); (case xst1_Exception => first | rfl | k_is); (case xst0_Exception => first | rfl | k_is)
    (case xst7_TypeError => first | rfl | k_is); (case xst6_TypeError => first | rfl | k_is); (case xst5_TypeError => first | rfl | k_is); (case xst4_TypeError => first | rfl | k_is); (case xst3_TypeError => first | rfl | k_is); (case xst2_TypeError => first | rfl | k_is); (case xst1_TypeError => first | rfl | k_is); (case xst0_TypeError => first | rfl | k_is)
    (case xst7_RuntimeError => first | rfl | k_is); (case xst6_RuntimeError => first | rfl | k_is); (case xst5_RuntimeError => first | rfl | k_is); (case xst4_RuntimeError => first | rfl | k_is); (case xst3_RuntimeError => first | rfl | k_is); (case xst2_RuntimeError => first | rfl | k_is); (case xst1_RuntimeError => first | rfl | k_is); (case xst0_RuntimeError => first | rfl | k_is)
    (case xst7_ValueError => first | rfl | k_is); (case xst6_ValueError => first | rfl | k_is); (case xst5_ValueError => first | rfl | k_is); (case xst4_ValueError => first | rfl | k_is); (case xst3_ValueError => first | rfl | k_is); (case xst2_ValueError => first | rfl | k_is); (case xst1_ValueError => first | rfl | k_is); (case xst0_ValueError => first | rfl | k_is)

