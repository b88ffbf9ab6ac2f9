import PyProof.Rows.All
import Wide.All
import OpenK.AllK
import Wide.FinOn
import HandS.ForMost
import HandS.Deep
import HandS.StrMore
import HandS.IsInst
import HandS.Flow
import KE.KeyNested
import HandS.TupAny
import HandS.ReCall
import KE.KIndexOf
import KE.GoesMore
import KE.GoesEnum
import HandS.SetFor
import HandS.Property
import HandS.Style
import HandS.Words
import HandS.WordsExc
import HandS.Defaults
import HandS.SlotsOwn
import HandS.Codes
import PyProof.Rows.FactsN_abs
import PyProof.Rows.FactsN_isinstance
import PyProof.DictRoadsH
import PyProof.DictMoreH
import OpenK.KMeth
import HandS.ExcOwn
import HandS.ExcInit
import HandS.ExcField
import HandS.ExcIs
import HandS.TryMany
import HandS.More
import KE.KRevSl
import HandS.Text
import PySem.Challenge.RW_pagesheld_k18_whole_points
set_option Elab.async false
set_option linter.all false
set_option maxRecDepth 100000
namespace L3
open PySem L2

/-! ### data without a heap -/
inductive D where
  | non | bl (b : Bool) | int (i : Int) | str (s : Str)
  | tup (xs : List D) | lst (xs : List D)
  | dic (kvs : List (Key × D)) | dit (kvs : List (List Key × D))
  | obj (C : Addr) (fs : List (Str × D))
  | ty (n : String) | cls (C : Addr)
  | scr (ns : List Int)
  | bx (b : Addr) (d : D)
  | din (w : World) (kvs : List (D × D))
  | exc (a dd C : Addr) (fs : List (Str × D))
  | dik (kvs : List (Key × D))

/-- a dict whose keys are tuples (nested), by its entries -/
def DNat (w : World) (d : Addr) (xs : List (NestedKey × Addr × Value)) (h : Heap) : Prop :=
  ∃ o es ep, h.get? d = some o ∧ o.ExactDict ∧ o.data = .dict es ep ∧ es.toList = xs.map (fun x => (⟨x.1.hash w, .ref x.2.1, x.2.2⟩ : DictEntry)) ∧ (xs.map (·.1)).Nodup ∧ xs.length ≤ sizeLine ∧ (d == sysModules) = false
mutual
/-- data as a key -/
def D.nk : D → Option NestedKey
  | .non => some .none
  | .bl b => some (.num (if b = true then 1 else 0))
  | .int i => some (.num i)
  | .str s => some (.text s)
  | .tup ds => (D.nks ds).map .tup
  | _ => none
def D.nks : List D → Option (List NestedKey)
  | [] => some []
  | d :: ds => match D.nk d, D.nks ds with
    | some k, some ks => some (k :: ks)
    | _, _ => none
end
def KT (K : PySem.W.Frag) (a : Addr) (xs : List V) : Prop :=
  ∃ (o : Obj) (its : Array Value) (n : Nat), K.lookup a = some o ∧ o.cls = .type "tuple" ∧ o.dict = none ∧ o.data = .seq its n ∧ its.size ≤ sizeLine ∧ Vals xs its.toList
def KL (K : PySem.W.Frag) (a : Addr) (xs : List V) : Prop :=
  ∃ (o : Obj) (its : Array Value) (n : Nat), K.lookup a = some o ∧ o.cls = .type "list" ∧ o.dict = none ∧ o.data = .seq its n ∧ its.size ≤ sizeLine ∧ Vals xs its.toList
abbrev US := Addr → Prop
def TupAt (H : Hp) (a : Addr) (xs : List V) : Prop := ∃ o : Obj, o.dict = none ∧ H a = some (.frz o (.tup xs))
def RdT (K : PySem.W.Frag) (H : Hp) (U : US) (a : Addr) (xs : List V) : Prop := (TupAt H a xs ∧ ¬ U a) ∨ KT K a xs
def RdL (H : Hp) (U : US) (a : Addr) (xs : List V) : Prop := H a = some (.lst xs) ∧ ¬ U a
mutual
def Rp (K : PySem.W.Frag) (H : Hp) (U : US) : D → V → Prop
  | .non, v => v = .non
  | .bl b, v => v = .bl b
  | .int i, v => v = .int i
  | .str s, v => v = .str s
  | .tup ds, v => ∃ a vs, v = .ref a ∧ RdT K H U a vs ∧ RpAll K H U ds vs
  | .lst ds, v => ∃ a vs, v = .ref a ∧ RdL H U a vs ∧ RpAll K H U ds vs
  | .dic ds, v => ∃ a kvs, v = .ref a ∧ Rd H a (.dK kvs) ∧ ¬ U a ∧ RpK K H U ds kvs
  | .dit ds, v => ∃ a kvs, v = .ref a ∧ Rd H a (.dT kvs) ∧ ¬ U a ∧ RpT K H U ds kvs
  | .ty n, v => v = .ty n
  | .cls C, v => v = .ref C
  | .bx _ _, _ => False
  | .din w ds, v => ∃ a xs, v = .ref a ∧ Rd H a (.ext (DNat w a xs)) ∧ ¬ U a ∧ RpN K H U ds xs
  | .exc a dd C fs, v => v = .ref a ∧ ∃ gs, H dd = some (.xd gs) ∧ ¬ U dd ∧ RpF K H U fs gs
  | .dik ds, v => ∃ a o kvs, v = .ref a ∧ H a = some (.frz o (.dK kvs)) ∧ ¬ U a ∧ RpK K H U ds kvs
  | .scr ns, v => ∃ a, v = .ref a ∧ (KL K a (ns.map V.int) ∨ ∃ o, H a = some (.frz o (.lst (ns.map V.int))) ∧ ¬ U a)
  | .obj C fs, v => ∃ a dx gs, v = .ref a ∧ H a = some (.ins C dx gs) ∧ ¬ U a ∧ RpF K H U fs gs
def RpAll (K : PySem.W.Frag) (H : Hp) (U : US) : List D → List V → Prop
  | [], vs => vs = []
  | d :: ds, vs => ∃ v r, vs = v :: r ∧ Rp K H U d v ∧ RpAll K H U ds r
def RpK (K : PySem.W.Frag) (H : Hp) (U : US) : List (Key × D) → List (Key × V) → Prop
  | [], vs => vs = []
  | (k, d) :: ds, vs => ∃ v r, vs = (k, v) :: r ∧ Rp K H U d v ∧ RpK K H U ds r
def RpT (K : PySem.W.Frag) (H : Hp) (U : US) : List (List Key × D) → List (List Key × V) → Prop
  | [], vs => vs = []
  | (k, d) :: ds, vs => ∃ v r, vs = (k, v) :: r ∧ Rp K H U d v ∧ RpT K H U ds r
def RpN (K : PySem.W.Frag) (H : Hp) (U : US) : List (D × D) → List (NestedKey × Addr × Value) → Prop
  | [], xs => xs = []
  | (dk, dv) :: ds, xs => ∃ k b u v r, xs = (k, b, u) :: r ∧ dk.nk = some k ∧ k.depth ≤ 8 ∧ Rp K H U dk (.ref b) ∧ Rp K H U dv v ∧ RelV v u ∧ RpN K H U ds r
def RpF (K : PySem.W.Frag) (H : Hp) (U : US) : List (Str × D) → List (Str × V) → Prop
  | [], vs => vs = []
  | (k, d) :: ds, vs => ∃ v r, vs = (k, v) :: r ∧ Rp K H U d v ∧ RpF K H U ds r
end
def Pres (H : Hp) (U : US) (H' : Hp) (U' : US) : Prop := ∀ a o, H a = some o → ¬ U a → H' a = some o ∧ ¬ U' a
theorem Pres.refl (H : Hp) (U : US) : Pres H U H U := fun _ _ h n => ⟨h, n⟩
theorem Pres.trans {H H1 H2 : Hp} {U U1 U2 : US} (a : Pres H U H1 U1) (b : Pres H1 U1 H2 U2) : Pres H U H2 U2 := fun x o h n =>
  let ⟨h1, n1⟩ := a x o h n
  b x o h1 n1
theorem Pres.rd {H H' : Hp} {U U' : US} (p : Pres H U H' U') {a : Addr} {u : HO} (h : Rd H a u) (n : ¬ U a) : Rd H' a u ∧ ¬ U' a := by
  rcases h with h | ⟨o, h⟩
  · obtain ⟨h', n'⟩ := p a _ h n
    exact ⟨.inl h', n'⟩
  · obtain ⟨h', n'⟩ := p a _ h n
    exact ⟨.inr ⟨o, h'⟩, n'⟩
theorem RdT.pres {K : PySem.W.Frag} {H H' : Hp} {U U' : US} (p : Pres H U H' U') {a : Addr} {xs : List V} (h : RdT K H U a xs) : RdT K H' U' a xs := by
  rcases h with ⟨⟨o, hd, h⟩, n⟩ | h
  · obtain ⟨h', n'⟩ := p a _ h n
    exact .inl ⟨⟨o, hd, h'⟩, n'⟩
  · exact .inr h
theorem KT.sq {K : PySem.W.Frag} {H : Hp} {a : Addr} {xs : List V} (h : KT K a xs) : SqT K H a xs := by
  obtain ⟨o, its, n, h1, h2, _, h3, h4, h5⟩ := h
  exact .inr ⟨o, its, n, h1, h2, h3, h4, h5⟩
theorem RdT.sq {K : PySem.W.Frag} {H : Hp} {U : US} {a : Addr} {xs : List V} (h : RdT K H U a xs) : SqT K H a xs := by
  rcases h with ⟨⟨o, _, h⟩, _⟩ | h
  · exact .inl (.inr ⟨o, h⟩)
  · exact h.sq
theorem RdL.pres {H H' : Hp} {U U' : US} (p : Pres H U H' U') {a : Addr} {xs : List V} (h : RdL H U a xs) : RdL H' U' a xs := p a _ h.1 h.2
mutual
theorem Rp.pres {K : PySem.W.Frag} {H H' : Hp} {U U' : US} (p : Pres H U H' U') : ∀ (d : D) (v : V), Rp K H U d v → Rp K H' U' d v
  | .non, _, h => by simpa only [Rp] using h
  | .bl _, _, h => by simpa only [Rp] using h
  | .int _, _, h => by simpa only [Rp] using h
  | .str _, _, h => by simpa only [Rp] using h
  | .ty _, _, h => by simpa only [Rp] using h
  | .scr _, _, h => by
    simp only [Rp] at h ⊢
    obtain ⟨a, e, h⟩ := h
    refine ⟨a, e, h.imp id fun ⟨o, h1, n⟩ => ?_⟩
    obtain ⟨h', n'⟩ := p a _ h1 n
    exact ⟨o, h', n'⟩
  | .cls _, _, h => by simpa only [Rp] using h
  | .bx _ _, _, h => by simp only [Rp] at h
  | .dik ds, _, h => by
    simp only [Rp] at h ⊢
    obtain ⟨a, o, vs, e, h1, n, h2⟩ := h
    obtain ⟨h1, n⟩ := p a _ h1 n
    exact ⟨a, o, vs, e, h1, n, RpK.pres p ds vs h2⟩
  | .exc a dd C fs, _, h => by
    simp only [Rp] at h ⊢
    obtain ⟨e, gs, h1, n, h2⟩ := h
    obtain ⟨h1, n⟩ := p dd _ h1 n
    exact ⟨e, gs, h1, n, RpF.pres p fs gs h2⟩
  | .din w ds, _, h => by
    simp only [Rp] at h ⊢
    obtain ⟨a, xs, e, h1, n, h2⟩ := h
    obtain ⟨h1, n⟩ := p.rd h1 n
    exact ⟨a, xs, e, h1, n, RpN.pres p ds xs h2⟩
  | .tup ds, _, h => by
    simp only [Rp] at h ⊢
    obtain ⟨a, vs, e, h1, h2⟩ := h
    exact ⟨a, vs, e, h1.pres p, RpAll.pres p ds vs h2⟩
  | .lst ds, _, h => by
    simp only [Rp] at h ⊢
    obtain ⟨a, vs, e, h1, h2⟩ := h
    exact ⟨a, vs, e, h1.pres p, RpAll.pres p ds vs h2⟩
  | .dic ds, _, h => by
    simp only [Rp] at h ⊢
    obtain ⟨a, vs, e, h1, n, h2⟩ := h
    obtain ⟨h1, n⟩ := p.rd h1 n
    exact ⟨a, vs, e, h1, n, RpK.pres p ds vs h2⟩
  | .dit ds, _, h => by
    simp only [Rp] at h ⊢
    obtain ⟨a, vs, e, h1, n, h2⟩ := h
    obtain ⟨h1, n⟩ := p.rd h1 n
    exact ⟨a, vs, e, h1, n, RpT.pres p ds vs h2⟩
  | .obj C fs, _, h => by
    simp only [Rp] at h ⊢
    obtain ⟨a, dx, gs, e, h1, n, h2⟩ := h
    obtain ⟨h1, n⟩ := p a _ h1 n
    exact ⟨a, dx, gs, e, h1, n, RpF.pres p fs gs h2⟩
theorem RpAll.pres {K : PySem.W.Frag} {H H' : Hp} {U U' : US} (p : Pres H U H' U') : ∀ (ds : List D) (vs : List V), RpAll K H U ds vs → RpAll K H' U' ds vs
  | [], _, h => by simpa only [RpAll] using h
  | d :: ds, _, h => by
    simp only [RpAll] at h ⊢
    obtain ⟨v, r, e, h1, h2⟩ := h
    exact ⟨v, r, e, Rp.pres p d v h1, RpAll.pres p ds r h2⟩
theorem RpK.pres {K : PySem.W.Frag} {H H' : Hp} {U U' : US} (p : Pres H U H' U') : ∀ (ds : List (Key × D)) (vs : List (Key × V)), RpK K H U ds vs → RpK K H' U' ds vs
  | [], _, h => by simpa only [RpK] using h
  | (k, d) :: ds, _, h => by
    simp only [RpK] at h ⊢
    obtain ⟨v, r, e, h1, h2⟩ := h
    exact ⟨v, r, e, Rp.pres p d v h1, RpK.pres p ds r h2⟩
theorem RpT.pres {K : PySem.W.Frag} {H H' : Hp} {U U' : US} (p : Pres H U H' U') : ∀ (ds : List (List Key × D)) (vs : List (List Key × V)), RpT K H U ds vs → RpT K H' U' ds vs
  | [], _, h => by simpa only [RpT] using h
  | (k, d) :: ds, _, h => by
    simp only [RpT] at h ⊢
    obtain ⟨v, r, e, h1, h2⟩ := h
    exact ⟨v, r, e, Rp.pres p d v h1, RpT.pres p ds r h2⟩
theorem RpN.pres {K : PySem.W.Frag} {H H' : Hp} {U U' : US} (p : Pres H U H' U') : ∀ (ds : List (D × D)) (xs : List (NestedKey × Addr × Value)), RpN K H U ds xs → RpN K H' U' ds xs
  | [], _, h => by simpa only [RpN] using h
  | (dk, dv) :: ds, _, h => by
    simp only [RpN] at h ⊢
    obtain ⟨k, b, u, v, r, e, h1, h2, h3, h4, h5, h6⟩ := h
    exact ⟨k, b, u, v, r, e, h1, h2, Rp.pres p dk _ h3, Rp.pres p dv _ h4, h5, RpN.pres p ds r h6⟩
theorem RpF.pres {K : PySem.W.Frag} {H H' : Hp} {U U' : US} (p : Pres H U H' U') : ∀ (ds : List (Str × D)) (vs : List (Str × V)), RpF K H U ds vs → RpF K H' U' ds vs
  | [], _, h => by simpa only [RpF] using h
  | (k, d) :: ds, _, h => by
    simp only [RpF] at h ⊢
    obtain ⟨v, r, e, h1, h2⟩ := h
    exact ⟨v, r, e, Rp.pres p d v h1, RpF.pres p ds r h2⟩
end
end L3

set_option Elab.async false
set_option linter.all false
set_option maxRecDepth 100000
namespace L3
open PySem PySem.Spec L2 PyProof.Rows

abbrev tupObj (its : List Value) : Obj := { cls := .type "tuple", data := .seq its.toArray }
section
variable {X : Cx} {es : List Expr} {t : TA} {pos : Pos}
/-- a new tuple, known to the object -/
theorem tnewI {pins : List (Addr × Obj)} {σ : L2.St} {H : Hp} {s : Shared} (I : Inv X pins σ H s) {xs : List V} {its : List Value} {t' : Nat} (r : Vals xs its) (z : xs.length ≤ sizeLine) :
    Inv X pins σ (upd H s.heap.objs.size (.frz (tupObj its) (.tup xs))) { s with heap := s.heap.push (tupObj its), toks := t' } :=
  I.laid (t' := t') (fun b u e => Heap.get?_push_of_some _ e) (Nat.le_refl _) ⟨Heap.get?_push_size _ rfl, z, its, r, IsTup.new _ _⟩
def tTupF (t : TA) : TE := fun σ H Q => t σ H fun xs H1 => xs.length ≤ sizeLine ∧ ∀ (p : Addr) (o : Obj), H1 p = none → o.dict = none → Q (.ref p) (upd H1 p (.frz o (.tup xs)))
theorem pe_tupF {x1} (h : PA X es t) : PE X (.Tuple es x1 pos) (tTupF t) := by
  refine ⟨fun pins s σ H Q I hq => ?_⟩
  refine wpAny_Tuple_spliced (thn (h.run pos pins s σ H _ I hq) fun us s1 ⟨xs, H1, I1, r, z, q⟩ => ⟨by rw [← r.length]; exact z, ?_⟩)
  have hf : H1 s1.heap.objs.size = none := I1.hok.fresh (Nat.le_refl _)
  exact ⟨.ref s1.heap.objs.size, upd H1 s1.heap.objs.size (.frz (tupObj us) (.tup xs)), tnewI I1 r z, rfl, q _ (tupObj us) hf rfl⟩
def rTupF (K : PySem.W.Frag) : List V → Hp → VK → Prop := fun xs H Q => ∃ p ys, xs = [.ref p] ∧ ((SqL K H p ys ∧ ∀ (l : Addr) (o : Obj), H l = none → o.dict = none → Q (.ref l) (upd H l (.frz o (.tup ys)))) ∨ (SqT K H p ys ∧ Q (.ref p) H))
theorem call_tupleF : CallR X (.type "tuple") (rTupF X.K) := by
  intro pins s σ H xs us Q I r h
  obtain ⟨p, ys, rfl, h⟩ := h
  rcases h with ⟨hq, q⟩ | ⟨hq, q⟩
  · cases r with
    | cons rx rr =>
      cases rr
      cases rx
      obtain ⟨its, r', pl, hz⟩ := I.list hq
      have hlen := r'.length
      refine call_tuple_list pl.isList (fun h' kp => ?_) (by simp only [List.size_toArray] <;> omega)
      have I1 : Inv X pins σ H { s with heap := h' } := I.kept (t' := s.toks) kp
      exact ⟨.ref h'.objs.size, _, tnewI I1 (t' := s.toks) r' hz, rfl, q _ (tupObj its) (I1.hok.fresh (Nat.le_refl _)) rfl⟩
  · exact call_tuple_of pins s σ H _ us Q I r ⟨p, ys, rfl, .inr ⟨hq, q⟩⟩
def rSlF (K : PySem.W.Frag) : V → Option Int → Option Int → Hp → VK → Prop := fun x lo hi H Q => ∃ a xs, x = .ref a ∧ SqT K H a xs ∧
  (HT.sIx xs.length 0 lo = 0 ∧ HT.sIx xs.length xs.length hi = xs.length → Q (.ref a) H) ∧
  (¬ (HT.sIx xs.length 0 lo = 0 ∧ HT.sIx xs.length xs.length hi = xs.length) → ∀ (p : Addr) (o : Obj), H p = none → o.dict = none → Q (.ref p) (upd H p (.frz o (.tup (cutV xs lo hi)))))
theorem sl_tupF : SlR X (rSlF X.K) := by
  intro pins s σ H x v vl vu lo hi sl Q I rx hs pl pu h
  obtain ⟨a, xs, rfl, hx, q1, q2⟩ := h
  cases rx
  obtain ⟨its, r, ht, hz⟩ := I.tuple hx
  have hlen : its.toArray.size = xs.length := by rw [List.size_toArray]; exact r.length.symm
  refine ⟨"tuple", _, PyProof.Rows.slot_tuple_getitem.lookup, ht.typeIs, ?_⟩
  by_cases hw : HT.sIx xs.length 0 lo = 0 ∧ HT.sIx xs.length xs.length hi = xs.length
  · exact L2.getItem_tuple_whole ht hs pl pu (by rw [hlen]; exact hw) ⟨.ref a, H, I, rfl, q1 hw⟩
  · refine HT.getItem_tuple_cut ht hs pl pu (by rw [hlen]; exact hw) ?_ (by rw [hlen]; exact hz)
    rw [hlen]
    exact ⟨.ref s.heap.objs.size, _, tnewI I (t' := s.toks) ((r.drop (HT.sIx xs.length 0 lo)).take (HT.sIx xs.length xs.length hi - HT.sIx xs.length 0 lo)) (Nat.le_trans (cutV_length xs lo hi) hz), rfl, q2 hw _ (tupObj _) (I.hok.fresh (Nat.le_refl _)) rfl⟩
def rCatF (K : PySem.W.Frag) : R2 := fun x y H Q => ∃ a b xs ys, x = .ref a ∧ y = .ref b ∧ SqT K H a xs ∧ SqT K H b ys ∧ xs.length + ys.length ≤ sizeLine ∧
  (xs = [] → Q (.ref b) H) ∧ (xs ≠ [] → ys = [] → Q (.ref a) H) ∧ (xs ≠ [] → ys ≠ [] → ∀ (p : Addr) (o : Obj), H p = none → o.dict = none → Q (.ref p) (upd H p (.frz o (.tup (xs ++ ys)))))
theorem op_catF : OpR X (binaryOp .Add) (rCatF X.K) := by
  intro pins s σ H x y v u Q I rx ry h
  obtain ⟨a, b, xs, ys, rfl, rfl, ha, hb, hz, q0, q1, q2⟩ := h
  cases rx
  cases ry
  obtain ⟨its, r1, p1, _⟩ := I.tuple ha
  obtain ⟨its2, r2, p2, _⟩ := I.tuple hb
  by_cases hx : xs = []
  · subst hx
    cases r1
    exact L2.cat_tup0 p1 p2 ⟨.ref b, H, I, rfl, q0 rfl⟩
  · refine HT.cat_tup p1 p2 (fun z => hx (r1.nil_iff.mp z)) (fun z => ⟨.ref a, H, I, rfl, q1 hx (r2.nil_iff.mp z)⟩) (fun z => ?_) (by rw [← r1.length, ← r2.length]; exact hz)
    exact ⟨.ref s.heap.objs.size, _, tnewI I (t' := s.toks) (r1.append r2) (by rw [List.length_append]; exact hz), rfl, q2 hx (fun w => z (r2.nil_iff.mpr w)) _ (tupObj _) (I.hok.fresh (Nat.le_refl _)) rfl⟩
end
end L3

set_option Elab.async false
set_option linter.all false
set_option maxRecDepth 100000
namespace L3
open PySem L2

/-- own, par: data without boxes; owb, pab: an instance whose fields may hold boxes (objects that it alone owns) -/
inductive Sl where
  | emp | shr (d : D) | own (d : D) | par (d : D) | brw (d : D) | owb (d : D) | pab (d : D)
abbrev En := List Sl
def Sl.isW : Sl → Bool
  | .own _ => true
  | .par _ => true
  | .owb _ => true
  | .pab _ => true
  | _ => false
def Sl.locked : Sl → Bool
  | .par _ => true
  | .pab _ => true
  | .brw _ => true
  | _ => false
def Sl.lk : Sl → Option (Option D)
  | .par _ => some none
  | .pab _ => some none
  | .brw d => some (some d)
  | _ => none
/-- the data that a slot holds -/
def Sl.dat : Sl → Option D
  | .emp => none
  | .shr d => some d
  | .own d => some d
  | .par d => some d
  | .brw d => some d
  | .owb d => some d
  | .pab d => some d
/-- the same slot with other data -/
def Sl.upd : Sl → D → Sl
  | .own _, d => .own d
  | .par _, d => .par d
  | .owb _, d => .owb d
  | .pab _, d => .pab d
  | s, _ => s
def bxsF : List (Str × D) → List Addr
  | [] => []
  | (_, .bx b _) :: fs => b :: bxsF fs
  | _ :: fs => bxsF fs
def D.bxs : D → List Addr
  | .obj _ fs => bxsF fs
  | _ => []
def Sl.bxs : Sl → List Addr
  | .owb d => d.bxs
  | .pab d => d.bxs
  | _ => []
/-- the slot s, which holds o, owns x -/
def Sl.reg (s : Sl) (o : Option V) (x : Addr) : Prop := s.isW = true ∧ (o = some (.ref x) ∨ x ∈ s.bxs)

section
variable (K : PySem.W.Frag) (H : Hp) (U : US)
def TopW : D → Addr → Prop
  | .lst ds, a => ∃ vs, H a = some (.lst vs) ∧ RpAll K H U ds vs
  | .dic ds, a => ∃ vs, H a = some (.dK vs) ∧ RpK K H U ds vs
  | .dit ds, a => ∃ vs, H a = some (.dT vs) ∧ RpT K H U ds vs
  | .din w ds, a => ∃ xs, H a = some (.ext (DNat w a xs)) ∧ RpN K H U ds xs
  | .obj C fs, a => ∃ dx gs, H a = some (.ins C dx gs) ∧ RpF K H U fs gs
  | _, _ => False
/-- a field's data: a box or shared -/
def Ov : D → V → Prop
  | .bx b d, v => v = .ref b ∧ U b ∧ TopW K H U d b
  | d, v => Rp K H U d v
def OvF : List (Str × D) → List (Str × V) → Prop
  | [], vs => vs = []
  | (k, d) :: ds, vs => ∃ v r, vs = (k, v) :: r ∧ Ov K H U d v ∧ OvF ds r
def TopB : D → Addr → Prop
  | .obj C fs, a => ∃ dx gs, H a = some (.ins C dx gs) ∧ OvF K H U fs gs ∧ (a :: bxsF fs).Nodup
  | _, _ => False
def TopR0 : D → Addr → Prop
  | .lst ds, a => ∃ vs, Rd H a (.lst vs) ∧ RpAll K H U ds vs
  | .dic ds, a => ∃ vs, Rd H a (.dK vs) ∧ RpK K H U ds vs
  | .dit ds, a => ∃ vs, Rd H a (.dT vs) ∧ RpT K H U ds vs
  | .din w ds, a => ∃ xs, Rd H a (.ext (DNat w a xs)) ∧ RpN K H U ds xs
  | .obj C fs, a => ∃ dx gs, H a = some (.ins C dx gs) ∧ RpF K H U fs gs
  | _, _ => False
def Rv : D → V → Prop
  | .bx b d, v => v = .ref b ∧ TopR0 K H U d b
  | d, v => Rp K H U d v
def RvF : List (Str × D) → List (Str × V) → Prop
  | [], vs => vs = []
  | (k, d) :: ds, vs => ∃ v r, vs = (k, v) :: r ∧ Rv K H U d v ∧ RvF ds r
def TopR : D → Addr → Prop
  | .lst ds, a => ∃ vs, Rd H a (.lst vs) ∧ RpAll K H U ds vs
  | .dic ds, a => ∃ vs, Rd H a (.dK vs) ∧ RpK K H U ds vs
  | .dit ds, a => ∃ vs, Rd H a (.dT vs) ∧ RpT K H U ds vs
  | .din w ds, a => ∃ xs, Rd H a (.ext (DNat w a xs)) ∧ RpN K H U ds xs
  | .obj C fs, a => ∃ dx gs, H a = some (.ins C dx gs) ∧ RvF K H U fs gs
  | _, _ => False
def SlotOk : Sl → Option V → Prop
  | .emp, _ => True
  | .shr d, o => ∃ v, o = some v ∧ Rp K H U d v
  | .own d, o => ∃ a, o = some (.ref a) ∧ U a ∧ TopW K H U d a
  | .par d, o => ∃ a, o = some (.ref a) ∧ U a ∧ TopW K H U d a
  | .owb d, o => ∃ a, o = some (.ref a) ∧ U a ∧ TopB K H U d a
  | .pab d, o => ∃ a, o = some (.ref a) ∧ U a ∧ TopB K H U d a
  | .brw _, _ => True
end
def Own (ρ : En) (σ : St) (x : Addr) : Prop := ∃ (i : Nat) (s : Sl) (o : Option V), ρ[i]? = some s ∧ σ[i]? = some o ∧ s.reg o x
theorem Own.root {ρ : En} {σ : St} {i : Nat} {s : Sl} {a : Addr} (h1 : ρ[i]? = some s) (h2 : s.isW = true) (h3 : σ[i]? = some (some (.ref a))) : Own ρ σ a := ⟨i, s, _, h1, h3, h2, .inl rfl⟩

structure Fr where
  K : PySem.W.Frag
  H0 : Hp
  U0 : US
  W0 : US
  S0 : St
  L0 : Nat → Option D → Prop

/-- what a lent slot's address shields: itself and its boxes -/
def D.reg (d : D) (a x : Addr) : Prop := x = a ∨ x ∈ d.bxs
structure Rel (F : Fr) (U : US) (ρ : En) (σ : St) (H : Hp) : Prop where
  len : ρ.length = σ.length
  slot : ∀ (i : Nat) (s : Sl) (o : Option V), ρ[i]? = some s → σ[i]? = some o → SlotOk F.K H U s o
  bor : ∀ (i : Nat) (d : D) (o : Option V), ρ[i]? = some (.brw d) → σ[i]? = some o → (∃ v, o = some v ∧ Rp F.K H U d v) ∨ (∃ a, o = some (.ref a) ∧ TopR F.K H U d a ∧ ∀ x, d.reg a x → ¬ Own ρ σ x)
  inj : ∀ (i j : Nat) (s t : Sl) (o o' : Option V) (x : Addr), ρ[i]? = some s → ρ[j]? = some t → σ[i]? = some o → σ[j]? = some o' → s.reg o x → t.reg o' x → i = j
  tr : ∀ a, U a → ∃ o, H a = some o
  keep : ∀ a o, F.H0 a = some o → ¬ F.W0 a → H a = some o
  ktr : ∀ a o, F.H0 a = some o → ∃ o', H a = some o'
  shar : ∀ a o, F.H0 a = some o → ¬ F.U0 a → ¬ U a
  up : ∀ a, F.U0 a → ¬ F.W0 a → U a
  new : ∀ a, Own ρ σ a → F.W0 a ∨ F.H0 a = none
  lock : ∀ (i : Nat) (s : Sl) (l : Option D), ρ[i]? = some s → s.lk = some l → F.L0 i l ∧ σ[i]? = F.S0[i]?
  wu : ∀ a, F.W0 a → F.U0 a
  b0 : ∀ (j : Nat) (d : D), F.L0 j (some d) → (∃ v, F.S0[j]? = some (some v) ∧ Rp F.K F.H0 F.U0 d v) ∨ (∃ (a : Addr), F.S0[j]? = some (some (.ref a)) ∧ ∀ x, d.reg a x → ∃ o, F.H0 x = some o)
  u0 : ∀ a, F.U0 a → ∃ o, F.H0 a = some o

section
variable {K : PySem.W.Frag} {H H' : Hp} {U U' : US} {d : D} {a : Addr}
theorem rpF_rvF : ∀ {ds : List (Str × D)} {vs : List (Str × V)}, RpF K H U ds vs → RvF K H U ds vs
  | [], _, h => by simpa only [RpF, RvF] using h
  | (k, d) :: ds, _, h => by
    simp only [RpF] at h
    obtain ⟨v, r, e, h1, h2⟩ := h
    refine ⟨v, r, e, ?_, rpF_rvF h2⟩
    cases d <;> first | exact h1 | (simp only [Rp] at h1)
theorem TopW.r0 (h : TopW K H U d a) : TopR0 K H U d a := by
  cases d <;> first | exact h.elim | (obtain ⟨vs, h1, h2⟩ := h; first | exact ⟨vs, .inl h1, h2⟩ | exact ⟨vs, h1, h2⟩)
theorem TopW.r (h : TopW K H U d a) : TopR K H U d a := by
  cases d <;> first | exact h.elim | (obtain ⟨vs, h1, h2⟩ := h; first | exact ⟨vs, .inl h1, h2⟩ | (obtain ⟨gs, h1, h2⟩ := (⟨h1, h2⟩ : ∃ gs, _ ∧ _); exact ⟨vs, gs, h1, rpF_rvF h2⟩) | (obtain ⟨h2, h3⟩ := h2; exact ⟨vs, h1, h2, rpF_rvF h3⟩))
theorem ovF_rvF : ∀ {ds : List (Str × D)} {vs : List (Str × V)}, OvF K H U ds vs → RvF K H U ds vs
  | [], _, h => by simpa only [OvF, RvF] using h
  | (k, d) :: ds, _, h => by
    simp only [OvF] at h
    obtain ⟨v, r, e, h1, h2⟩ := h
    refine ⟨v, r, e, ?_, ovF_rvF h2⟩
    cases d <;> first | exact h1 | skip
    obtain ⟨e1, _, t⟩ := h1
    exact ⟨e1, t.r0⟩
theorem TopB.r (h : TopB K H U d a) : TopR K H U d a := by
  cases d <;> first | exact h.elim | skip
  obtain ⟨dx, gs, h1, h2, _⟩ := h
  exact ⟨dx, gs, h1, ovF_rvF h2⟩
theorem TopW.pres (p : Pres H U H' U') (e : ∀ o, H a = some o → H' a = some o) (h : TopW K H U d a) : TopW K H' U' d a := by
  cases d with
  | lst ds => obtain ⟨vs, h1, h2⟩ := h; exact ⟨vs, e _ h1, RpAll.pres p ds vs h2⟩
  | dic ds => obtain ⟨vs, h1, h2⟩ := h; exact ⟨vs, e _ h1, RpK.pres p ds vs h2⟩
  | dit ds => obtain ⟨vs, h1, h2⟩ := h; exact ⟨vs, e _ h1, RpT.pres p ds vs h2⟩
  | din w ds => obtain ⟨vs, h1, h2⟩ := h; exact ⟨vs, e _ h1, RpN.pres p ds vs h2⟩
  | obj C fs => obtain ⟨dx, gs, h1, h2⟩ := h; exact ⟨dx, gs, e _ h1, RpF.pres p fs gs h2⟩
  | _ => exact h.elim
theorem OvF.pres (p : Pres H U H' U') : ∀ {ds : List (Str × D)} {vs : List (Str × V)}, (∀ x, x ∈ bxsF ds → U x → U' x ∧ ∀ o, H x = some o → H' x = some o) → OvF K H U ds vs → OvF K H' U' ds vs
  | [], _, _, h => by simpa only [OvF] using h
  | (k, d) :: ds, _, e, h => by
    simp only [OvF] at h
    obtain ⟨v, r, e1, h1, h2⟩ := h
    cases d with
    | bx b d =>
      obtain ⟨e2, u, t⟩ := h1
      obtain ⟨u', k'⟩ := e b (List.mem_cons_self ..) u
      exact ⟨v, r, e1, ⟨e2, u', t.pres p k'⟩, OvF.pres p (fun x hx => e x (List.mem_cons_of_mem _ hx)) h2⟩
    | _ => exact ⟨v, r, e1, Rp.pres p _ _ h1, OvF.pres p e h2⟩
theorem TopB.pres (p : Pres H U H' U') (e : ∀ o, H a = some o → H' a = some o) (eb : ∀ x, x ∈ d.bxs → U x → U' x ∧ ∀ o, H x = some o → H' x = some o) (h : TopB K H U d a) : TopB K H' U' d a := by
  cases d <;> first | exact h.elim | skip
  obtain ⟨dx, gs, h1, h2, h3⟩ := h
  exact ⟨dx, gs, e _ h1, h2.pres p eb, h3⟩
theorem rd_pres {a : Addr} (e : ∀ o, H a = some o → H' a = some o) : ∀ u, Rd H a u → Rd H' a u := fun u h => h.elim (fun h => .inl (e _ h)) fun ⟨o, h⟩ => .inr ⟨o, e _ h⟩
theorem TopR0.pres (p : Pres H U H' U') (e : ∀ o, H a = some o → H' a = some o) (h : TopR0 K H U d a) : TopR0 K H' U' d a := by
  cases d with
  | lst ds => obtain ⟨vs, h1, h2⟩ := h; exact ⟨vs, rd_pres e _ h1, RpAll.pres p ds vs h2⟩
  | dic ds => obtain ⟨vs, h1, h2⟩ := h; exact ⟨vs, rd_pres e _ h1, RpK.pres p ds vs h2⟩
  | dit ds => obtain ⟨vs, h1, h2⟩ := h; exact ⟨vs, rd_pres e _ h1, RpT.pres p ds vs h2⟩
  | din w ds => obtain ⟨vs, h1, h2⟩ := h; exact ⟨vs, rd_pres e _ h1, RpN.pres p ds vs h2⟩
  | obj C fs => obtain ⟨dx, gs, h1, h2⟩ := h; exact ⟨dx, gs, e _ h1, RpF.pres p fs gs h2⟩
  | _ => exact h.elim
theorem RvF.pres (p : Pres H U H' U') : ∀ {ds : List (Str × D)} {vs : List (Str × V)}, (∀ x, x ∈ bxsF ds → ∀ o, H x = some o → H' x = some o) → RvF K H U ds vs → RvF K H' U' ds vs
  | [], _, _, h => by simpa only [RvF] using h
  | (k, d) :: ds, _, e, h => by
    simp only [RvF] at h
    obtain ⟨v, r, e1, h1, h2⟩ := h
    cases d with
    | bx b d =>
      obtain ⟨e2, t⟩ := h1
      exact ⟨v, r, e1, ⟨e2, t.pres p (e b (List.mem_cons_self ..))⟩, RvF.pres p (fun x hx => e x (List.mem_cons_of_mem _ hx)) h2⟩
    | _ => exact ⟨v, r, e1, Rp.pres p _ _ h1, RvF.pres p e h2⟩
theorem TopR.pres (p : Pres H U H' U') (e : ∀ x, d.reg a x → ∀ o, H x = some o → H' x = some o) (h : TopR K H U d a) : TopR K H' U' d a := by
  have e0 := e a (.inl rfl)
  cases d with
  | lst ds => obtain ⟨vs, h1, h2⟩ := h; exact ⟨vs, rd_pres e0 _ h1, RpAll.pres p ds vs h2⟩
  | dic ds => obtain ⟨vs, h1, h2⟩ := h; exact ⟨vs, rd_pres e0 _ h1, RpK.pres p ds vs h2⟩
  | dit ds => obtain ⟨vs, h1, h2⟩ := h; exact ⟨vs, rd_pres e0 _ h1, RpT.pres p ds vs h2⟩
  | din w ds => obtain ⟨vs, h1, h2⟩ := h; exact ⟨vs, rd_pres e0 _ h1, RpN.pres p ds vs h2⟩
  | obj C fs => obtain ⟨dx, gs, h1, h2⟩ := h; exact ⟨dx, gs, e0 _ h1, h2.pres p fun x hx => e x (.inr hx)⟩
  | _ => exact h.elim
theorem TopR0.some (h : TopR0 K H U d a) : ∃ o, H a = some o := by
  have rd : ∀ u, Rd H a u → ∃ o, H a = Option.some o := fun u h => h.elim (fun h => ⟨_, h⟩) fun ⟨o, h⟩ => ⟨_, h⟩
  cases d with
  | lst ds => obtain ⟨vs, h1, h2⟩ := h; exact rd _ h1
  | dic ds => obtain ⟨vs, h1, h2⟩ := h; exact rd _ h1
  | dit ds => obtain ⟨vs, h1, h2⟩ := h; exact rd _ h1
  | din w ds => obtain ⟨vs, h1, h2⟩ := h; exact rd _ h1
  | obj C fs => obtain ⟨dx, gs, h1, h2⟩ := h; exact ⟨_, h1⟩
  | _ => exact h.elim
theorem RvF.som : ∀ {ds : List (Str × D)} {vs : List (Str × V)}, RvF K H U ds vs → ∀ x, x ∈ bxsF ds → ∃ o, H x = some o
  | [], _, _, x, hx => by cases hx
  | (k, d) :: ds, _, h, x, hx => by
    simp only [RvF] at h
    obtain ⟨v, r, e1, h1, h2⟩ := h
    cases d with
    | bx b d =>
      rcases List.mem_cons.mp hx with e | hx
      · subst e; exact h1.2.some
      · exact h2.som x hx
    | _ => exact h2.som x hx
theorem TopR.some (h : TopR K H U d a) : ∀ x, d.reg a x → ∃ o, H x = some o := by
  have rd : ∀ u, Rd H a u → ∃ o, H a = Option.some o := fun u h => h.elim (fun h => ⟨_, h⟩) fun ⟨o, h⟩ => ⟨_, h⟩
  intro x hx
  cases d with
  | lst ds => obtain ⟨vs, h1, h2⟩ := h; rcases hx with e | hx; (subst e; exact rd _ h1); cases hx
  | dic ds => obtain ⟨vs, h1, h2⟩ := h; rcases hx with e | hx; (subst e; exact rd _ h1); cases hx
  | dit ds => obtain ⟨vs, h1, h2⟩ := h; rcases hx with e | hx; (subst e; exact rd _ h1); cases hx
  | din w ds => obtain ⟨vs, h1, h2⟩ := h; rcases hx with e | hx; (subst e; exact rd _ h1); cases hx
  | obj C fs =>
    obtain ⟨dx, gs, h1, h2⟩ := h
    rcases hx with e | hx
    · subst e; exact ⟨_, h1⟩
    · exact h2.som x hx
  | _ => exact h.elim
theorem TopW.nob (h : TopW K H U d a) : d.bxs = [] := by
  cases d <;> first | rfl | exact h.elim | skip
  obtain ⟨dx, gs, h1, h2⟩ := h
  have go : ∀ {ds : List (Str × D)} {vs : List (Str × V)}, RpF K H U ds vs → bxsF ds = [] := by
    intro ds
    induction ds with
    | nil => intro _ _; rfl
    | cons p ds ih =>
      intro vs h
      obtain ⟨k, d⟩ := p
      simp only [RpF] at h
      obtain ⟨v, r, e1, h1, h2⟩ := h
      cases d <;> first | exact ih h2 | (simp only [Rp] at h1)
  exact go h2
theorem OvF.u : ∀ {ds : List (Str × D)} {vs : List (Str × V)}, OvF K H U ds vs → ∀ x, x ∈ bxsF ds → U x
  | [], _, _, x, hx => by cases hx
  | (k, d) :: ds, _, h, x, hx => by
    simp only [OvF] at h
    obtain ⟨v, r, e1, h1, h2⟩ := h
    cases d with
    | bx b d =>
      rcases List.mem_cons.mp hx with e | hx
      · subst e; exact h1.2.1
      · exact h2.u x hx
    | _ => exact h2.u x hx
theorem TopB.u (h : TopB K H U d a) : ∀ x, x ∈ d.bxs → U x := by
  cases d <;> first | exact h.elim | skip
  obtain ⟨dx, gs, h1, h2, h3⟩ := h
  exact h2.u
theorem SlotOk.regU {s : Sl} {o : Option V} (h : SlotOk K H U s o) {x : Addr} (r : s.reg o x) : U x := by
  obtain ⟨w, r⟩ := r
  cases s with
  | own d => obtain ⟨b, e, u, _⟩ := h; rcases r with r | r; (rw [e] at r; cases r; exact u); cases r
  | par d => obtain ⟨b, e, u, _⟩ := h; rcases r with r | r; (rw [e] at r; cases r; exact u); cases r
  | owb d => obtain ⟨b, e, u, t⟩ := h; rcases r with r | r; (rw [e] at r; cases r; exact u); exact t.u x r
  | pab d => obtain ⟨b, e, u, t⟩ := h; rcases r with r | r; (rw [e] at r; cases r; exact u); exact t.u x r
  | _ => cases w
/-- a slot's data stays if what it owns stays -/
theorem SlotOk.pres (p : Pres H U H' U') {s : Sl} {o : Option V} (e : ∀ x, s.reg o x → U x → U' x ∧ ∀ u, H x = some u → H' x = some u) (h : SlotOk K H U s o) : SlotOk K H' U' s o := by
  cases s with
  | emp => trivial
  | brw d => trivial
  | shr d => obtain ⟨v, e1, q⟩ := h; exact ⟨v, e1, Rp.pres p d v q⟩
  | own d => obtain ⟨a, rfl, u, q⟩ := h; obtain ⟨u', k⟩ := e a ⟨rfl, .inl rfl⟩ u; exact ⟨a, rfl, u', q.pres p k⟩
  | par d => obtain ⟨a, rfl, u, q⟩ := h; obtain ⟨u', k⟩ := e a ⟨rfl, .inl rfl⟩ u; exact ⟨a, rfl, u', q.pres p k⟩
  | owb d => obtain ⟨a, rfl, u, q⟩ := h; obtain ⟨u', k⟩ := e a ⟨rfl, .inl rfl⟩ u; exact ⟨a, rfl, u', q.pres p k fun x hx => e x ⟨rfl, .inr hx⟩⟩
  | pab d => obtain ⟨a, rfl, u, q⟩ := h; obtain ⟨u', k⟩ := e a ⟨rfl, .inl rfl⟩ u; exact ⟨a, rfl, u', q.pres p k fun x hx => e x ⟨rfl, .inr hx⟩⟩
theorem SlotOk.ref {s : Sl} {o : Option V} (h : SlotOk K H U s o) (w : s.isW = true) : ∃ a, o = some (.ref a) ∧ U a := by
  cases s with
  | own d => obtain ⟨a, e, u, _⟩ := h; exact ⟨a, e, u⟩
  | par d => obtain ⟨a, e, u, _⟩ := h; exact ⟨a, e, u⟩
  | owb d => obtain ⟨a, e, u, _⟩ := h; exact ⟨a, e, u⟩
  | pab d => obtain ⟨a, e, u, _⟩ := h; exact ⟨a, e, u⟩
  | _ => cases w
end
theorem set_get {α : Type} {l : List α} {i j : Nat} {x y : α} (h : (l.set i x)[j]? = some y) : (i = j ∧ y = x ∧ i < l.length) ∨ (i ≠ j ∧ l[j]? = some y) := by
  by_cases e : i = j
  · subst e
    by_cases hl : i < l.length
    · rw [List.getElem?_set_self hl] at h
      exact .inl ⟨rfl, (Option.some.inj h).symm, hl⟩
    · rw [List.getElem?_eq_none (by rw [List.length_set]; omega)] at h
      cases h
  · rw [List.getElem?_set_ne e] at h
    exact .inr ⟨e, h⟩
theorem reg_noW {s : Sl} {o : Option V} {x : Addr} (h : s.isW = false) : ¬ s.reg o x := fun r => by rw [r.1] at h; cases h

section
variable {F : Fr} {U U' : US} {ρ ρ' : En} {σ : St} {H H' : Hp}
theorem Rel.ownU (R : Rel F U ρ σ H) {a : Addr} (h : Own ρ σ a) : U a := by
  obtain ⟨i, s, o, h1, h2, h3⟩ := h
  exact (R.slot i s _ h1 h2).regU h3
/-- what is owned did not stand as shared at the start -/
theorem Rel.own0 (R : Rel F U ρ σ H) {a : Addr} (h : Own ρ σ a) (u : F.U0 a) : F.W0 a := by
  rcases R.new a h with z | z
  · exact z
  · obtain ⟨o, e⟩ := R.u0 a u
    rw [z] at e; cases e
/-- the frame's slots after a change that keeps what stands -/
theorem Rel.ext (R : Rel F U ρ σ H) (e : ∀ a o, H a = some o → H' a = some o) : Rel F U ρ σ H' := by
  have p : Pres H U H' U := fun a o h n => ⟨e a o h, n⟩
  refine ⟨R.len, fun i s o h1 h2 => (R.slot i s o h1 h2).pres p fun x _ u => ⟨u, e x⟩, fun i d o h1 h2 => ?_, R.inj, fun a h => ?_, fun a o h n => e a o (R.keep a o h n), fun a o h => ?_, R.shar, R.up, R.new, R.lock, R.wu, R.b0, R.u0⟩
  · rcases R.bor i d o h1 h2 with ⟨v, e1, q⟩ | ⟨a, e1, q, n⟩
    · exact .inl ⟨v, e1, Rp.pres p d v q⟩
    · exact .inr ⟨a, e1, q.pres p fun x _ => e x, n⟩
  · obtain ⟨o, h⟩ := R.tr a h
    exact ⟨o, e a o h⟩
  · obtain ⟨o', h⟩ := R.ktr a o h
    exact ⟨o', e a o' h⟩
theorem Rel.fresh (R : Rel F U ρ σ H) {a : Addr} (h : H a = none) : ¬ U a := fun u => by
  obtain ⟨o, e⟩ := R.tr a u
  rw [h] at e; cases e
theorem ext_new {H : Hp} {p : Addr} {o : HO} (h : H p = none) : ∀ a u, H a = some u → upd H p o a = some u := fun a u e => by
  rw [upd_ne (ne_of_none e h)]; exact e
theorem reg_upd {s : Sl} {d' : D} {o : Option V} {x : Addr} (h : (s.upd d').reg o x) (hb : ∀ y, y ∈ (s.upd d').bxs → y ∈ s.bxs) : s.reg o x := by
  obtain ⟨w, h⟩ := h
  refine ⟨?_, h.imp id (hb x)⟩
  cases s <;> first | rfl | exact w
theorem isW_upd {s : Sl} {d' : D} : (s.upd d').isW = s.isW := by cases s <;> rfl
theorem lk_upd {s : Sl} {d' : D} (h : s.isW = true) : (s.upd d').lk = s.lk := by cases s <;> first | rfl | cases h
/-- an owned object of slot i (its root or a box) is written -/
theorem Rel.writeX (R : Rel F U ρ σ H) {i : Nat} {s : Sl} {a x : Addr} {d' : D} {o' : HO} (h1 : ρ[i]? = some s) (h2 : s.isW = true) (h3 : σ[i]? = some (some (.ref a))) (hx : s.reg (some (.ref a)) x)
    (hb : ∀ y, y ∈ (s.upd d').bxs → y ∈ s.bxs) (new : SlotOk F.K (upd H x o') U (s.upd d') (some (.ref a))) : Rel F U (ρ.set i (s.upd d')) σ (upd H x o') := by
  have hox : Own ρ σ x := ⟨i, s, _, h1, h3, hx⟩
  have hu : U x := R.ownU hox
  have hi : i < ρ.length := (List.getElem?_eq_some_iff.mp h1).1
  have p : Pres H U (upd H x o') U := fun y o h n => ⟨by
    have nx : y ≠ x := fun e => n (by rw [e]; exact hu)
    rw [upd_ne nx]
    exact h, n⟩
  have own' : ∀ y, Own (ρ.set i (s.upd d')) σ y → Own ρ σ y := fun y => by
    rintro ⟨j, t, o, q1, q2, q3⟩
    rcases set_get q1 with ⟨e, rfl, _⟩ | ⟨_, q1⟩
    · subst e; exact ⟨i, s, o, h1, q2, reg_upd q3 hb⟩
    · exact ⟨j, t, o, q1, q2, q3⟩
  refine ⟨by rw [List.length_set]; exact R.len, fun j t o q1 q2 => ?_, fun j d o q1 q2 => ?_, fun j k t u o o2 b q1 q2 q3 q4 q5 q6 => ?_, fun y u => ?_, fun y o q n => ?_, fun y o q => ?_, R.shar, R.up, fun y q => R.new y (own' y q), fun j t l q1 q2 => ?_, R.wu, R.b0, R.u0⟩
  · rcases set_get q1 with ⟨e, rfl, _⟩ | ⟨ne, q1⟩
    · subst e
      rw [h3] at q2; cases q2
      exact new
    · refine (R.slot j t o q1 q2).pres p fun y hy u => ⟨u, fun w hw => ?_⟩
      have nb : y ≠ x := fun e => ne (R.inj i j s t _ _ x h1 q1 h3 q2 hx (e ▸ hy))
      rw [upd_ne nb]; exact hw
  · rcases set_get q1 with ⟨e, e2, _⟩ | ⟨ne, q1⟩
    · have : (s.upd d').isW = true := isW_upd.trans h2
      rw [← e2] at this; cases this
    · rcases R.bor j d o q1 q2 with ⟨v, e1, q⟩ | ⟨b, e1, q, n⟩
      · exact .inl ⟨v, e1, Rp.pres p d v q⟩
      · refine .inr ⟨b, e1, q.pres p (fun y hy w hw => ?_), fun y hy z => n y hy (own' y z)⟩
        have nb : y ≠ x := fun e => n y hy (by rw [e]; exact hox)
        rw [upd_ne nb]; exact hw
  · have f : ∀ {j : Nat} {t : Sl} {o : Option V}, (ρ.set i (s.upd d'))[j]? = some t → t.reg o b → ∃ t' : Sl, ρ[j]? = some t' ∧ t'.reg o b := fun {j t o} q1 q3 => by
      rcases set_get q1 with ⟨e, rfl, _⟩ | ⟨ne, q1⟩
      · subst e; exact ⟨s, h1, reg_upd q3 hb⟩
      · exact ⟨t, q1, q3⟩
    obtain ⟨t', z1, z2⟩ := f q1 q5
    obtain ⟨u', z3, z4⟩ := f q2 q6
    exact R.inj j k t' u' o o2 b z1 z3 q3 q4 z2 z4
  · by_cases e : y = x
    · subst e; exact ⟨_, upd_same⟩
    · obtain ⟨o, h⟩ := R.tr y u
      exact ⟨o, by rw [upd_ne e]; exact h⟩
  · have nx : y ≠ x := fun e => by
      subst e
      rcases R.new y hox with z | z
      · exact n z
      · rw [z] at q; cases q
    rw [upd_ne nx]; exact R.keep y o q n
  · by_cases e : y = x
    · subst e; exact ⟨_, upd_same⟩
    · obtain ⟨o', h⟩ := R.ktr y o q
      exact ⟨o', by rw [upd_ne e]; exact h⟩
  · rcases set_get q1 with ⟨e, rfl, _⟩ | ⟨ne, q1⟩
    · subst e; rw [lk_upd h2] at q2; exact R.lock i s l h1 q2
    · exact R.lock j t l q1 q2
def Sl.flat : Sl → Bool
  | .owb _ => false
  | .pab _ => false
  | _ => true
theorem flat_bxs {s : Sl} (h : s.flat = true) : s.bxs = [] := by cases s <;> first | rfl | cases h
theorem flat_upd {s : Sl} {d : D} : (s.upd d).flat = s.flat := by cases s <;> rfl
theorem flat_ok {K : PySem.W.Frag} {s : Sl} {d : D} {a : Addr} (w : s.isW = true) (f : s.flat = true) (u : U a) (t : TopW K H U d a) : SlotOk K H U (s.upd d) (some (.ref a)) := by
  cases s <;> first | exact ⟨a, rfl, u, t⟩ | (cases f; done) | (cases w; done)
/-- an owned object is written -/
theorem Rel.write (R : Rel F U ρ σ H) {i : Nat} {s : Sl} {a : Addr} {d' : D} {o' : HO} (h1 : ρ[i]? = some s) (h2 : s.isW = true) (hf : s.flat = true) (h3 : σ[i]? = some (some (.ref a)))
    (new : TopW F.K (upd H a o') U d' a) : Rel F U (ρ.set i (s.upd d')) σ (upd H a o') :=
  R.writeX h1 h2 h3 ⟨h2, .inl rfl⟩ (fun y hy => by rw [flat_bxs (flat_upd.trans hf)] at hy; cases hy) (flat_ok h2 hf (R.ownU (Own.root h1 h2 h3)) new)
/-- a slot that is not locked gets something that owns nothing -/
theorem Rel.setNo (R : Rel F U ρ σ H) {i : Nat} {s s' : Sl} {o' : Option V} (h1 : ρ[i]? = some s) (h2 : s.locked = false) (hw : s'.isW = false) (hl : s'.lk = none) (ok : SlotOk F.K H U s' o') : Rel F U (ρ.set i s') (σ.set i o') H := by
  have hi : i < σ.length := by rw [← R.len]; exact (List.getElem?_eq_some_iff.mp h1).1
  have own' : ∀ x, Own (ρ.set i s') (σ.set i o') x → Own ρ σ x := fun x ⟨j, t, o, q1, q2, q3⟩ => by
    rcases set_get q1 with ⟨e, rfl, _⟩ | ⟨ne, q1⟩
    · exact absurd q3 (reg_noW hw)
    · rw [List.getElem?_set_ne ne] at q2
      exact ⟨j, t, o, q1, q2, q3⟩
  refine ⟨by rw [List.length_set, List.length_set]; exact R.len, fun j t o q1 q2 => ?_, fun j d' o q1 q2 => ?_, fun j k t u o o2 b q1 q2 q3 q4 q5 q6 => ?_, R.tr, R.keep, R.ktr, R.shar, R.up, fun x q => R.new x (own' x q), fun j t l q1 q2 => ?_, R.wu, R.b0, R.u0⟩
  · rcases set_get q1 with ⟨e, rfl, _⟩ | ⟨ne, q1⟩
    · subst e
      rw [List.getElem?_set_self hi] at q2; cases q2
      exact ok
    · rw [List.getElem?_set_ne ne] at q2
      exact R.slot j t o q1 q2
  · rcases set_get q1 with ⟨e, e2, _⟩ | ⟨ne, q1⟩
    · rw [← e2] at hl; cases hl
    · rw [List.getElem?_set_ne ne] at q2
      rcases R.bor j d' o q1 q2 with z | ⟨b, e1, q, n⟩
      · exact .inl z
      · exact .inr ⟨b, e1, q, fun y hy z => n y hy (own' y z)⟩
  · rcases set_get q1 with ⟨e, rfl, _⟩ | ⟨ne, q1⟩
    · exact absurd q5 (reg_noW hw)
    · rcases set_get q2 with ⟨e, rfl, _⟩ | ⟨ne2, q2⟩
      · exact absurd q6 (reg_noW hw)
      · rw [List.getElem?_set_ne ne] at q3
        rw [List.getElem?_set_ne ne2] at q4
        exact R.inj j k t u o o2 b q1 q2 q3 q4 q5 q6
  · rcases set_get q1 with ⟨e, rfl, _⟩ | ⟨ne, q1⟩
    · rw [hl] at q2; cases q2
    · rw [List.getElem?_set_ne ne]
      exact R.lock j t l q1 q2
/-- a slot that is not locked gets a shared value -/
theorem Rel.setShr (R : Rel F U ρ σ H) {i : Nat} {s : Sl} {d : D} {v : V} (h1 : ρ[i]? = some s) (h2 : s.locked = false) (r : Rp F.K H U d v) : Rel F U (ρ.set i (.shr d)) (σ.set i (some v)) H :=
  R.setNo h1 h2 rfl rfl ⟨v, rfl, r⟩
/-- .. is emptied -/
theorem Rel.setEmp (R : Rel F U ρ σ H) {i : Nat} {s : Sl} {o : Option V} (h1 : ρ[i]? = some s) (h2 : s.locked = false) : Rel F U (ρ.set i .emp) (σ.set i o) H :=
  R.setNo h1 h2 rfl rfl trivial
/-- a new object, owned by nobody yet, of which nobody else knows -/
structure Fresh (F : Fr) (U : US) (H : Hp) (d : D) (a : Addr) : Prop where
  top : TopW F.K H U d a
  u : U a
  new : F.H0 a = none
/-- a slot that is not locked gets a new object, with its boxes -/
theorem Rel.setNew (R : Rel F U ρ σ H) {i : Nat} {s s' : Sl} {a : Addr} (h1 : ρ[i]? = some s) (h2 : s.locked = false) (hl : s'.lk = none) (ok : SlotOk F.K H U s' (some (.ref a))) (nw : ∀ x, s'.reg (some (.ref a)) x → F.W0 x ∨ F.H0 x = none) (no : ∀ x, s'.reg (some (.ref a)) x → ¬ Own ρ σ x)
    (nb : ∀ (j : Nat) (e : D), ρ[j]? = some (.brw e) → ∀ b, σ[j]? = some (some (.ref b)) → (∃ x, e.reg b x ∧ s'.reg (some (.ref a)) x) → Rp F.K H U e (.ref b)) : Rel F U (ρ.set i s') (σ.set i (some (.ref a))) H := by
  have hi : i < σ.length := by rw [← R.len]; exact (List.getElem?_eq_some_iff.mp h1).1
  have own' : ∀ x, Own (ρ.set i s') (σ.set i (some (.ref a))) x → Own ρ σ x ∨ s'.reg (some (.ref a)) x := fun x ⟨j, t, o, q1, q2, q3⟩ => by
    rcases set_get q1 with ⟨e, rfl, _⟩ | ⟨ne, q1⟩
    · subst e
      rw [List.getElem?_set_self hi] at q2
      cases q2
      exact .inr q3
    · rw [List.getElem?_set_ne ne] at q2
      exact .inl ⟨j, t, o, q1, q2, q3⟩
  refine ⟨by rw [List.length_set, List.length_set]; exact R.len, fun j t o q1 q2 => ?_, fun j d' o q1 q2 => ?_, fun j k t u o o2 b q1 q2 q3 q4 q5 q6 => ?_, R.tr, R.keep, R.ktr, R.shar, R.up, fun x q => ?_, fun j t l q1 q2 => ?_, R.wu, R.b0, R.u0⟩
  · rcases set_get q1 with ⟨e, rfl, _⟩ | ⟨ne, q1⟩
    · subst e
      rw [List.getElem?_set_self hi] at q2; cases q2
      exact ok
    · rw [List.getElem?_set_ne ne] at q2
      exact R.slot j t o q1 q2
  · rcases set_get q1 with ⟨e, e2, _⟩ | ⟨ne, q1⟩
    · rw [← e2] at hl; cases hl
    · rw [List.getElem?_set_ne ne] at q2
      rcases R.bor j d' o q1 q2 with z | ⟨b, e1, q, n⟩
      · exact .inl z
      · by_cases ex : ∃ x, d'.reg b x ∧ s'.reg (some (.ref a)) x
        · subst e1
          exact .inl ⟨_, rfl, nb j d' q1 b q2 ex⟩
        · exact .inr ⟨b, e1, q, fun y hy z => (own' y z).elim (n y hy) fun w => ex ⟨y, hy, w⟩⟩
  · rcases set_get q1 with ⟨e, rfl, _⟩ | ⟨ne, q1'⟩
    · rcases set_get q2 with ⟨e2, rfl, _⟩ | ⟨ne2, q2⟩
      · omega
      · subst e
        rw [List.getElem?_set_self hi] at q3; cases q3
        rw [List.getElem?_set_ne ne2] at q4
        exact absurd ⟨k, u, o2, q2, q4, q6⟩ (no b q5)
    · rcases set_get q2 with ⟨e2, e3, _⟩ | ⟨ne2, q2'⟩
      · subst e2
        rw [List.getElem?_set_self hi] at q4; cases q4
        rw [List.getElem?_set_ne ne] at q3
        rw [e3] at q6
        exact absurd ⟨j, t, o, q1', q3, q5⟩ (no b q6)
      · rw [List.getElem?_set_ne ne] at q3
        rw [List.getElem?_set_ne ne2] at q4
        exact R.inj j k t u o o2 b q1' q2' q3 q4 q5 q6
  · rcases own' x q with z | z
    · exact R.new x z
    · exact nw x z
  · rcases set_get q1 with ⟨e, rfl, _⟩ | ⟨ne, q1⟩
    · rw [hl] at q2; cases q2
    · rw [List.getElem?_set_ne ne]
      exact R.lock j t l q1 q2
theorem reg_own {d : D} {a x : Addr} (h : (Sl.own d).reg (some (.ref a)) x) : x = a := by
  rcases h.2 with h | h
  · cases h; rfl
  · cases h
theorem reg_flat {s : Sl} (f : s.flat = true) {a x : Addr} (h : s.reg (some (.ref a)) x) : x = a := by
  rcases h.2 with h | h
  · cases h; rfl
  · rw [flat_bxs f] at h; cases h
/-- a slot that is not locked gets a new object -/
theorem Rel.setOwn (R : Rel F U ρ σ H) {i : Nat} {s : Sl} {d : D} {a : Addr} (h1 : ρ[i]? = some s) (h2 : s.locked = false) (r : Fresh F U H d a) (no : ¬ Own ρ σ a)
    (nb : ∀ (j : Nat) (e : D), ρ[j]? = some (.brw e) → ∀ b, σ[j]? = some (some (.ref b)) → e.reg b a → Rp F.K H U e (.ref b)) : Rel F U (ρ.set i (.own d)) (σ.set i (some (.ref a))) H :=
  R.setNew h1 h2 rfl ⟨a, rfl, r.u, r.top⟩ (fun x hx => by rw [reg_own hx]; exact .inr r.new) (fun x hx => by rw [reg_own hx]; exact no) fun j e q1 b q2 ⟨x, hx, hy⟩ => nb j e q1 b q2 (by rw [← reg_own hy]; exact hx)
/-- U may grow by objects that nobody knows yet -/
theorem Rel.growX (R : Rel F U ρ σ H) {N : Addr → Prop} (hn : ∀ a, N a → H a = none) (e : ∀ b u, H b = some u → H' b = some u) (ha : ∀ a, N a → ∃ o, H' a = some o) : Rel F (fun b => U b ∨ N b) ρ σ H' := by
  have p : Pres H U H' (fun b => U b ∨ N b) := fun x u h n => ⟨e x u h, fun z => z.elim n fun q => by rw [hn x q] at h; cases h⟩
  refine ⟨R.len, fun i s o h1 h2 => (R.slot i s o h1 h2).pres p fun x _ u => ⟨.inl u, e x⟩, fun i d o h1 h2 => ?_, R.inj, fun b h => ?_, fun a o h n => e a o (R.keep a o h n), fun a o h => ?_, fun b u h n z => ?_, fun b h w => .inl (R.up b h w), R.new, R.lock, R.wu, R.b0, R.u0⟩
  · rcases R.bor i d o h1 h2 with ⟨v, e1, q⟩ | ⟨b, e1, q, n⟩
    · exact .inl ⟨v, e1, Rp.pres p d v q⟩
    · exact .inr ⟨b, e1, q.pres p fun x _ => e x, n⟩
  · rcases h with h | h
    · obtain ⟨o, h⟩ := R.tr b h
      exact ⟨o, e b o h⟩
    · exact ha b h
  · obtain ⟨o', h⟩ := R.ktr a o h
    exact ⟨o', e a o' h⟩
  · rcases z with z | z
    · exact R.shar b u h n z
    · obtain ⟨o', h'⟩ := R.ktr b u h
      rw [hn b z] at h'; cases h'
theorem Rel.grow (R : Rel F U ρ σ H) {a : Addr} {o : HO} (hn : H a = none) (e : ∀ b u, H b = some u → H' b = some u) (ha : H' a = some o) : Rel F (fun b => U b ∨ b = a) ρ σ H' :=
  R.growX (N := fun b => b = a) (fun b h => by rw [h]; exact hn) e fun b h => ⟨o, by rw [h]; exact ha⟩
/-- U may shrink to what is owned and what the frame began with -/
theorem Rel.shrink (R : Rel F U' ρ σ H) (le : ∀ a, U a → U' a) (up : ∀ a, F.U0 a → ¬ F.W0 a → U a) (own : ∀ a, Own ρ σ a → U a) : Rel F U ρ σ H := by
  have p : Pres H U' H U := fun x u h n => ⟨h, fun z => n (le x z)⟩
  refine ⟨R.len, fun i s o h1 h2 => (R.slot i s o h1 h2).pres p fun x hx _ => ⟨own x ⟨i, s, o, h1, h2, hx⟩, fun _ z => z⟩, fun i d o h1 h2 => ?_, R.inj, fun b h => R.tr b (le b h), R.keep, R.ktr, fun b u h n z => R.shar b u h n (le b z), up, R.new, R.lock, R.wu, R.b0, R.u0⟩
  · rcases R.bor i d o h1 h2 with ⟨v, e1, q⟩ | ⟨b, e1, q, n⟩
    · exact .inl ⟨v, e1, Rp.pres p d v q⟩
    · exact .inr ⟨b, e1, q.pres p (fun _ _ _ z => z), n⟩
/-- what the frame began with still stands -/
theorem Rel.pres0 (R : Rel F U ρ σ H) : Pres F.H0 F.U0 H U := fun a o h n => ⟨R.keep a o h fun w => n (R.wu a w), R.shar a o h n⟩
end
end L3

set_option Elab.async false
set_option linter.all false
set_option maxRecDepth 100000
namespace L3
open PySem L2

/-! ### what an expression gives: a shared value, or what an owned (lent) slot holds -/
inductive Rs where
  | val (d : D) | sl (i : Nat) | bx (i : Nat) (f : Str) (b : Addr)
/-- the box in the field f of what slot i holds -/
def boxOf (ρ : En) (i : Nat) (f : Str) : Option (Addr × D) := match ρ[i]? with
  | some s => match s.dat with
    | some (.obj _ fs) => match fs.lookup f with
      | some (.bx b d) => some (b, d)
      | _ => none
    | _ => none
  | none => none
def isBrw (ρ : En) (i : Nat) : Bool := match ρ[i]? with
  | some (.brw _) => true
  | _ => false
def Rs.dat (ρ : En) : Rs → Option D
  | .val d => some d
  | .bx i f b => match boxOf ρ i f with
    | some (b', d) => if b' = b then some d else none
    | none => none
  | .sl i => match ρ[i]? with
    | some s => s.dat
    | none => none
/-- .. not of a lent slot -/
def Sl.datN : Sl → Option D
  | .brw _ => none
  | .owb _ => none
  | .pab _ => none
  | s => s.dat
def Rs.datN (ρ : En) : Rs → Option D
  | .val d => some d
  | .bx i f b => if isBrw ρ i then none else match boxOf ρ i f with
    | some (b', d) => if b' = b then some d else none
    | none => none
  | .sl i => match ρ[i]? with
    | some s => s.datN
    | none => none
def RV (F : Fr) (U : US) (σ : St) (H : Hp) : Rs → V → Prop
  | .val d, v => Rp F.K H U d v
  | .bx _ _ b, v => v = .ref b
  | .sl i, v => σ[i]? = some (some v)
structure Stp (ρ : En) (σ : St) (H : Hp) (ρ' : En) (H' : Hp) : Prop where
  keep : ∀ a o, H a = some o → ¬ Own ρ σ a → H' a = some o
  own : ∀ a, Own ρ' σ a → Own ρ σ a
  tr : ∀ a o, H a = some o → ∃ o', H' a = some o'
abbrev T3E := En → (Rs → En → Prop) → Prop
abbrev T3T := En → (Bool → En → Prop) → Prop
abbrev T3A := En → (List Rs → En → Prop) → Prop
/-- what follows, at both levels -/
abbrev KE (F : Fr) (U : US) (ρ : En) (σ : St) (H : Hp) (Q3 : Rs → En → Prop) (Q2 : VK) : Prop :=
  ∀ r v ρ' H', Rel F U ρ' σ H' → Stp ρ σ H ρ' H' → RV F U σ H' r v → Q3 r ρ' → Q2 v H'
def SimE (K : PySem.W.Frag) (t2 : TE) (t3 : T3E) : Prop :=
  ∀ (F : Fr) (U : US) (ρ : En) (σ : St) (H : Hp) (Q3 : Rs → En → Prop) (Q2 : VK), F.K = K → Rel F U ρ σ H → t3 ρ Q3 → KE F U ρ σ H Q3 Q2 → t2 σ H Q2
def SimT (K : PySem.W.Frag) (t2 : TT) (t3 : T3T) : Prop :=
  ∀ (F : Fr) (U : US) (ρ : En) (σ : St) (H : Hp) (Q3 : Bool → En → Prop) (Q2 : Bool → Hp → Prop), F.K = K → Rel F U ρ σ H → t3 ρ Q3 →
    (∀ b ρ' H', Rel F U ρ' σ H' → Stp ρ σ H ρ' H' → Q3 b ρ' → Q2 b H') → t2 σ H Q2
inductive RVs (F : Fr) (U : US) (σ : St) (H : Hp) : List Rs → List V → Prop
  | nil : RVs F U σ H [] []
  | cons {r : Rs} {v : V} {rs : List Rs} {vs : List V} : RV F U σ H r v → RVs F U σ H rs vs → RVs F U σ H (r :: rs) (v :: vs)
def SimA (K : PySem.W.Frag) (t2 : TA) (t3 : T3A) : Prop :=
  ∀ (F : Fr) (U : US) (ρ : En) (σ : St) (H : Hp) (Q3 : List Rs → En → Prop) (Q2 : List V → Hp → Prop), F.K = K → Rel F U ρ σ H → t3 ρ Q3 →
    (∀ rs vs ρ' H', Rel F U ρ' σ H' → Stp ρ σ H ρ' H' → RVs F U σ H' rs vs → Q3 rs ρ' → Q2 vs H') → t2 σ H Q2
/-- a two-place operation on values -/
def SimR2 (K : PySem.W.Frag) (r2 : R2) (r3 : Rs → Rs → En → (Rs → En → Prop) → Prop) : Prop :=
  ∀ (F : Fr) (U : US) (ρ : En) (σ : St) (H : Hp) (x y : V) (rx ry : Rs) (Q3 : Rs → En → Prop) (Q2 : VK), F.K = K → Rel F U ρ σ H → RV F U σ H rx x → RV F U σ H ry y → r3 rx ry ρ Q3 → KE F U ρ σ H Q3 Q2 → r2 x y H Q2
/-- a call by values -/
def SimCR (K : PySem.W.Frag) (r2 : List V → Hp → VK → Prop) (r3 : List Rs → En → (Rs → En → Prop) → Prop) : Prop :=
  ∀ (F : Fr) (U : US) (ρ : En) (σ : St) (H : Hp) (vs : List V) (rs : List Rs) (Q3 : Rs → En → Prop) (Q2 : VK), F.K = K → Rel F U ρ σ H → RVs F U σ H rs vs → r3 rs ρ Q3 → KE F U ρ σ H Q3 Q2 → r2 vs H Q2

section
variable {F : Fr} {U : US} {ρ ρ' ρ2 : En} {σ : St} {H H' H2 : Hp} {K : PySem.W.Frag}
theorem Stp.refl (R : Rel F U ρ σ H) : Stp ρ σ H ρ H := ⟨fun _ _ h _ => h, fun _ h => h, fun _ o h => ⟨o, h⟩⟩
theorem Stp.trans (a : Stp ρ σ H ρ' H') (b : Stp ρ' σ H' ρ2 H2) : Stp ρ σ H ρ2 H2 :=
  ⟨fun x o h n => b.keep x o (a.keep x o h n) fun z => n (a.own x z), fun x z => a.own x (b.own x z), fun x o h => let ⟨o', h'⟩ := a.tr x o h; b.tr x o' h'⟩
theorem Stp.pres (s : Stp ρ σ H ρ' H') (R : Rel F U ρ σ H) : Pres H U H' U := fun a o h n => ⟨s.keep a o h fun z => n (R.ownU z), n⟩
theorem Stp.ext (e : ∀ a o, H a = some o → H' a = some o) : Stp ρ σ H ρ H' := ⟨fun a o h _ => e a o h, fun _ h => h, fun a o h => ⟨o, e a o h⟩⟩
theorem RV.pres {r : Rs} {v : V} (h : RV F U σ H r v) (p : Pres H U H' U) : RV F U σ H' r v := by
  cases r with
  | val d => exact Rp.pres p d v h
  | sl i => exact h
  | bx i f b => exact h
theorem RVs.pres {rs : List Rs} {vs : List V} (h : RVs F U σ H rs vs) (p : Pres H U H' U) : RVs F U σ H' rs vs := by
  induction h with
  | nil => exact .nil
  | cons h _ ih => exact .cons (h.pres p) ih
theorem RvF.get : ∀ {ds : List (Str × D)} {vs : List (Str × V)} {f : Str} {d : D}, RvF K H U ds vs → ds.lookup f = some d → ∃ v, vs.lookup f = some v ∧ Rv K H U d v
  | [], _, _, _, _, e => by cases e
  | (k, d) :: ds, _, f, d', h, e => by
    simp only [RvF] at h
    obtain ⟨v, r, rfl, h1, h2⟩ := h
    rw [List.lookup_cons] at e ⊢
    cases hk : (f == k) with
    | true => rw [hk] at e; cases e; exact ⟨v, rfl, h1⟩
    | false => rw [hk] at e; exact RvF.get h2 e
theorem OvF.get : ∀ {ds : List (Str × D)} {vs : List (Str × V)} {f : Str} {d : D}, OvF K H U ds vs → ds.lookup f = some d → ∃ v, vs.lookup f = some v ∧ Ov K H U d v
  | [], _, _, _, _, e => by cases e
  | (k, d) :: ds, _, f, d', h, e => by
    simp only [OvF] at h
    obtain ⟨v, r, rfl, h1, h2⟩ := h
    rw [List.lookup_cons] at e ⊢
    cases hk : (f == k) with
    | true => rw [hk] at e; cases e; exact ⟨v, rfl, h1⟩
    | false => rw [hk] at e; exact OvF.get h2 e
theorem TopR0.r {d : D} {a : Addr} (h : TopR0 K H U d a) : TopR K H U d a := by
  cases d with
  | obj C fs => obtain ⟨dx, gs, h1, h2⟩ := h; exact ⟨dx, gs, h1, rpF_rvF h2⟩
  | _ => exact h
theorem boxOf_out {ρ : En} {i : Nat} {f : Str} {b : Addr} {d : D} (h : boxOf ρ i f = some (b, d)) : ∃ s C fs, ρ[i]? = some s ∧ s.dat = some (.obj C fs) ∧ fs.lookup f = some (.bx b d) := by
  unfold boxOf at h
  cases hs : ρ[i]? with
  | none => rw [hs] at h; cases h
  | some s =>
    rw [hs] at h
    refine ⟨s, ?_⟩
    cases hd : s.dat with
    | none => simp [hd] at h
    | some e =>
      cases e with
      | obj C fs =>
        simp only [hd] at h
        refine ⟨C, fs, rfl, rfl, ?_⟩
        cases hl : fs.lookup f with
        | none => simp [hl] at h
        | some e2 =>
          cases e2 <;> simp [hl] at h
          obtain ⟨rfl, rfl⟩ := h
          rfl
      | _ => simp [hd] at h
theorem noBx {b : Addr} {d : D} {v : V} (h : Rp K H U (.bx b d) v) : False := by simp only [Rp] at h
theorem RpF.noBx {fs : List (Str × D)} {gs : List (Str × V)} {f : Str} {b : Addr} {d : D} (h : RpF K H U fs gs) (e : fs.lookup f = some (.bx b d)) : False := by
  induction fs generalizing gs with
  | nil => cases e
  | cons p fs ih =>
    obtain ⟨k, d'⟩ := p
    simp only [RpF] at h
    obtain ⟨v, r, rfl, h1, h2⟩ := h
    rw [List.lookup_cons] at e
    cases hk : (f == k) with
    | true => rw [hk] at e; cases e; exact L3.noBx h1
    | false => rw [hk] at e; exact ih h2 e
/-- a box of a slot -/
theorem Rel.box (R : Rel F U ρ σ H) {i : Nat} {f : Str} {b : Addr} {d : D} (h : boxOf ρ i f = some (b, d)) : TopR F.K H U d b ∧ (isBrw ρ i = false → ∃ s C fs a, ρ[i]? = some s ∧ s.isW = true ∧ s.flat = false ∧ s.dat = some (.obj C fs) ∧ fs.lookup f = some (.bx b d) ∧ σ[i]? = some (some (.ref a)) ∧ TopB F.K H U (.obj C fs) a ∧ TopW F.K H U d b ∧ U b) := by
  obtain ⟨s, C, fs, h1, h2, h3⟩ := boxOf_out h
  have hi : i < σ.length := by rw [← R.len]; exact (List.getElem?_eq_some_iff.mp h1).1
  have hσ : σ[i]? = some σ[i] := List.getElem?_eq_getElem hi
  have q := R.slot i s _ h1 hσ
  have bo : ∀ {a : Addr}, TopB F.K H U (.obj C fs) a → TopW F.K H U d b ∧ U b := fun {a} t => by
    obtain ⟨dx, gs, g1, g2, g3⟩ := t
    obtain ⟨v, _, e2, u, t⟩ := g2.get h3
    exact ⟨t, u⟩
  cases s with
  | emp => cases h2
  | shr d' =>
    cases h2
    obtain ⟨v, _, q⟩ := q
    simp only [Rp] at q
    obtain ⟨a, dx, gs, _, _, _, g⟩ := q
    exact (g.noBx h3).elim
  | own d' => cases h2; obtain ⟨a, _, _, dx, gs, _, g⟩ := q; exact (g.noBx h3).elim
  | par d' => cases h2; obtain ⟨a, _, _, dx, gs, _, g⟩ := q; exact (g.noBx h3).elim
  | owb d' => cases h2; obtain ⟨a, e, _, t⟩ := q; exact ⟨(bo t).1.r, fun _ => ⟨_, C, fs, a, h1, rfl, rfl, rfl, h3, hσ.trans (by rw [e]), t, bo t⟩⟩
  | pab d' => cases h2; obtain ⟨a, e, _, t⟩ := q; exact ⟨(bo t).1.r, fun _ => ⟨_, C, fs, a, h1, rfl, rfl, rfl, h3, hσ.trans (by rw [e]), t, bo t⟩⟩
  | brw d' =>
    cases h2
    refine ⟨?_, fun z => by simp [isBrw, h1] at z⟩
    rcases R.bor i _ _ h1 hσ with ⟨v, _, g⟩ | ⟨a, _, t, _⟩
    · simp only [Rp] at g
      obtain ⟨a, dx, gs, _, _, _, g⟩ := g
      exact (g.noBx h3).elim
    · obtain ⟨dx, gs, _, g⟩ := t
      obtain ⟨v, _, _, t⟩ := g.get h3
      exact t.r
/-- what a result holds -/
theorem RV.get (R : Rel F U ρ σ H) {r : Rs} {v : V} {d : D} (h : RV F U σ H r v) (e : r.dat ρ = some d) : Rp F.K H U d v ∨ ∃ a, v = .ref a ∧ TopR F.K H U d a := by
  cases r with
  | val d' => cases e; exact .inl h
  | bx i f b =>
    have e : (match boxOf ρ i f with | some (b', d) => if b' = b then some d else none | none => none) = some d := e
    cases hb : boxOf ρ i f with
    | none => rw [hb] at e; cases e
    | some p =>
      obtain ⟨b', d'⟩ := p
      rw [hb] at e
      have e : (if b' = b then some d' else none) = some d := e
      by_cases z : b' = b
      · rw [if_pos z] at e; cases e; subst z
        exact .inr ⟨b', h, (R.box hb).1⟩
      · rw [if_neg z] at e; cases e
  | sl i =>
    have h : σ[i]? = some (some v) := h
    have e : (match ρ[i]? with | some s => s.dat | none => none) = some d := e
    cases hs : ρ[i]? with
    | none => rw [hs] at e; cases e
    | some s =>
      rw [hs] at e
      have q := R.slot i s _ hs h
      cases s with
      | emp => cases e
      | shr d' => cases e; obtain ⟨v', e', q⟩ := q; cases e'; exact .inl q
      | own d' => cases e; obtain ⟨a, e', _, q⟩ := q; cases e'; exact .inr ⟨a, rfl, q.r⟩
      | par d' => cases e; obtain ⟨a, e', _, q⟩ := q; cases e'; exact .inr ⟨a, rfl, q.r⟩
      | owb d' => cases e; obtain ⟨a, e', _, q⟩ := q; cases e'; exact .inr ⟨a, rfl, q.r⟩
      | pab d' => cases e; obtain ⟨a, e', _, q⟩ := q; cases e'; exact .inr ⟨a, rfl, q.r⟩
      | brw d' =>
        cases e
        rcases R.bor i d _ hs h with ⟨v', e', q2⟩ | ⟨a, e', q2, _⟩
        · cases e'; exact .inl q2
        · cases e'; exact .inr ⟨a, rfl, q2⟩
theorem RV.getN (R : Rel F U ρ σ H) {r : Rs} {v : V} {d : D} (h : RV F U σ H r v) (e : r.datN ρ = some d) : Rp F.K H U d v ∨ ∃ a, v = .ref a ∧ TopW F.K H U d a := by
  cases r with
  | val d' => cases e; exact .inl h
  | bx i f b =>
    have e : (if isBrw ρ i then none else match boxOf ρ i f with | some (b', d) => if b' = b then some d else none | none => none) = some d := e
    cases w : isBrw ρ i with
    | true => rw [w] at e; cases e
    | false =>
      rw [w, if_neg (by simp)] at e
      cases hb : boxOf ρ i f with
      | none => rw [hb] at e; cases e
      | some p =>
        obtain ⟨b', d'⟩ := p
        rw [hb] at e
        have e : (if b' = b then some d' else none) = some d := e
        by_cases z : b' = b
        · rw [if_pos z] at e; cases e; subst z
          obtain ⟨s, C, fs, a, _, _, _, _, _, _, _, t, u⟩ := (R.box hb).2 w
          exact .inr ⟨b', h, t⟩
        · rw [if_neg z] at e; cases e
  | sl i =>
    have h : σ[i]? = some (some v) := h
    have e : (match ρ[i]? with | some s => s.datN | none => none) = some d := e
    cases hs : ρ[i]? with
    | none => rw [hs] at e; cases e
    | some s =>
      rw [hs] at e
      have q := R.slot i s _ hs h
      cases s with
      | emp => cases e
      | shr d' => cases e; obtain ⟨v', e', q⟩ := q; cases e'; exact .inl q
      | own d' => cases e; obtain ⟨a, e', _, q⟩ := q; cases e'; exact .inr ⟨a, rfl, q⟩
      | par d' => cases e; obtain ⟨a, e', _, q⟩ := q; cases e'; exact .inr ⟨a, rfl, q⟩
      | _ => cases e
theorem RV.int (R : Rel F U ρ σ H) {r : Rs} {v : V} {i : Int} (h : RV F U σ H r v) (e : r.dat ρ = some (.int i)) : v = .int i := by
  rcases h.get R e with q | ⟨a, _, q⟩
  · simpa only [Rp] using q
  · exact q.elim
theorem RV.str (R : Rel F U ρ σ H) {r : Rs} {v : V} {i : Str} (h : RV F U σ H r v) (e : r.dat ρ = some (.str i)) : v = .str i := by
  rcases h.get R e with q | ⟨a, _, q⟩
  · simpa only [Rp] using q
  · exact q.elim
theorem RV.bl (R : Rel F U ρ σ H) {r : Rs} {v : V} {i : Bool} (h : RV F U σ H r v) (e : r.dat ρ = some (.bl i)) : v = .bl i := by
  rcases h.get R e with q | ⟨a, _, q⟩
  · simpa only [Rp] using q
  · exact q.elim
theorem RV.non (R : Rel F U ρ σ H) {r : Rs} {v : V} (h : RV F U σ H r v) (e : r.dat ρ = some .non) : v = .non := by
  rcases h.get R e with q | ⟨a, _, q⟩
  · simpa only [Rp] using q
  · exact q.elim
theorem RV.tup (R : Rel F U ρ σ H) {r : Rs} {v : V} {ds : List D} (h : RV F U σ H r v) (e : r.dat ρ = some (.tup ds)) : ∃ a vs, v = .ref a ∧ SqT F.K H a vs ∧ RpAll F.K H U ds vs ∧ Rp F.K H U (.tup ds) v := by
  rcases h.get R e with q | ⟨a, _, q⟩
  · have q' := q
    simp only [Rp] at q
    obtain ⟨a, vs, e, h1, h2⟩ := q
    exact ⟨a, vs, e, h1.sq, h2, q'⟩
  · exact q.elim
theorem RV.lst (R : Rel F U ρ σ H) {r : Rs} {v : V} {ds : List D} (h : RV F U σ H r v) (e : r.dat ρ = some (.lst ds)) : ∃ a vs, v = .ref a ∧ SqL F.K H a vs ∧ RpAll F.K H U ds vs := by
  rcases h.get R e with q | ⟨a, e, vs, q1, q2⟩
  · simp only [Rp] at q
    obtain ⟨a, vs, e, h1, h2⟩ := q
    exact ⟨a, vs, e, .inl (.inl h1.1), h2⟩
  · exact ⟨a, vs, e, .inl q1, q2⟩
theorem RV.lstN (R : Rel F U ρ σ H) {r : Rs} {v : V} {ds : List D} (h : RV F U σ H r v) (e : r.datN ρ = some (.lst ds)) : ∃ a vs, v = .ref a ∧ H a = some (.lst vs) ∧ RpAll F.K H U ds vs := by
  rcases h.getN R e with q | ⟨a, e, vs, q1, q2⟩
  · simp only [Rp] at q
    obtain ⟨a, vs, e, h1, h2⟩ := q
    exact ⟨a, vs, e, h1.1, h2⟩
  · exact ⟨a, vs, e, q1, q2⟩
theorem RV.obj (R : Rel F U ρ σ H) {r : Rs} {v : V} {C : Addr} {fs : List (Str × D)} (h : RV F U σ H r v) (e : r.dat ρ = some (.obj C fs)) : ∃ a dx gs, v = .ref a ∧ H a = some (.ins C dx gs) ∧ RvF F.K H U fs gs := by
  rcases h.get R e with q | ⟨a, e, dx, gs, q1, q2⟩
  · simp only [Rp] at q
    obtain ⟨a, dx, gs, e, h1, _, h2⟩ := q
    exact ⟨a, dx, gs, e, h1, rpF_rvF h2⟩
  · exact ⟨a, dx, gs, e, q1, q2⟩
theorem Rs.dat_of_datN {r : Rs} {d : D} (e : r.datN ρ = some d) : r.dat ρ = some d := by
  cases r with
  | val d' => exact e
  | sl i =>
    have e : (match ρ[i]? with | some s => s.datN | none => none) = some d := e
    show (match ρ[i]? with | some s => s.dat | none => none) = some d
    cases hs : ρ[i]? with
    | none => rw [hs] at e; cases e
    | some s =>
      rw [hs] at e
      cases s <;> first | exact e | cases e
  | bx i f b =>
    have e : (if isBrw ρ i then none else match boxOf ρ i f with | some (b', d) => if b' = b then some d else none | none => none) = some d := e
    show (match boxOf ρ i f with | some (b', d) => if b' = b then some d else none | none => none) = some d
    cases w : isBrw ρ i with
    | true => rw [w] at e; cases e
    | false => rw [w, if_neg (by simp)] at e; exact e

/-! ### rows of values -/
theorem RpAll.len : ∀ {ds : List D} {vs : List V}, RpAll K H U ds vs → vs.length = ds.length
  | [], _, h => by simp only [RpAll] at h; rw [h]; rfl
  | d :: ds, _, h => by
    simp only [RpAll] at h
    obtain ⟨v, r, rfl, _, h2⟩ := h
    rw [List.length_cons, List.length_cons, h2.len]
theorem RpAll.get : ∀ {ds : List D} {vs : List V} {i : Nat} {d : D}, RpAll K H U ds vs → ds[i]? = some d → ∃ v, vs[i]? = some v ∧ Rp K H U d v
  | [], _, _, _, _, e => by simp at e
  | d :: ds, _, 0, _, h, e => by
    simp only [RpAll] at h
    obtain ⟨v, r, rfl, h1, h2⟩ := h
    simp at e; subst e
    exact ⟨v, rfl, h1⟩
  | d :: ds, _, i + 1, _, h, e => by
    simp only [RpAll] at h
    obtain ⟨v, r, rfl, h1, h2⟩ := h
    obtain ⟨v', e', h'⟩ := RpAll.get (i := i) h2 (by simpa using e)
    exact ⟨v', by simpa using e', h'⟩
theorem RpAll.atI {ds : List D} {vs : List V} {i : Int} {d : D} (h : RpAll K H U ds vs) (e : L2.atI ds i = some d) : ∃ v, L2.atI vs i = some v ∧ Rp K H U d v := by
  unfold L2.atI at e ⊢
  rw [h.len]
  cases hx : ixN ds.length i with
  | none => rw [hx] at e; cases e
  | some j => rw [hx] at e; exact h.get e
theorem RpAll.app : ∀ {ds es : List D} {vs ws : List V}, RpAll K H U ds vs → RpAll K H U es ws → RpAll K H U (ds ++ es) (vs ++ ws)
  | [], _, _, _, h, h' => by simp only [RpAll] at h; subst h; exact h'
  | d :: ds, es, _, ws, h, h' => by
    simp only [RpAll] at h
    obtain ⟨v, r, rfl, h1, h2⟩ := h
    simp only [List.cons_append, RpAll]
    exact ⟨v, r ++ ws, rfl, h1, RpAll.app h2 h'⟩
theorem RpAll.one {d : D} {v : V} (h : Rp K H U d v) : RpAll K H U [d] [v] := by
  simp only [RpAll]; exact ⟨v, [], rfl, h, rfl⟩
theorem RpAll.drop : ∀ (n : Nat) {ds : List D} {vs : List V}, RpAll K H U ds vs → RpAll K H U (ds.drop n) (vs.drop n)
  | 0, _, _, h => h
  | n + 1, [], _, h => by simp only [RpAll] at h; subst h; simp [RpAll]
  | n + 1, d :: ds, _, h => by
    simp only [RpAll] at h
    obtain ⟨v, r, rfl, h1, h2⟩ := h
    exact RpAll.drop n h2
theorem RpAll.take : ∀ (n : Nat) {ds : List D} {vs : List V}, RpAll K H U ds vs → RpAll K H U (ds.take n) (vs.take n)
  | 0, _, _, h => by simp [RpAll]
  | n + 1, [], _, h => by simp only [RpAll] at h; subst h; simp [RpAll]
  | n + 1, d :: ds, _, h => by
    simp only [RpAll] at h
    obtain ⟨v, r, rfl, h1, h2⟩ := h
    simp only [List.take_succ_cons, RpAll]
    exact ⟨v, _, rfl, h1, RpAll.take n h2⟩
theorem RpAll.set : ∀ {ds : List D} {vs : List V} {d : D} {v : V} (i : Nat), RpAll K H U ds vs → Rp K H U d v → RpAll K H U (ds.set i d) (vs.set i v)
  | [], _, _, _, _, h, _ => by simp only [RpAll] at h; subst h; simp [RpAll]
  | d :: ds, _, d', v', 0, h, q => by
    simp only [RpAll] at h
    obtain ⟨v, r, rfl, h1, h2⟩ := h
    simp only [List.set_cons_zero, RpAll]
    exact ⟨v', r, rfl, q, h2⟩
  | d :: ds, _, d', v', i + 1, h, q => by
    simp only [RpAll] at h
    obtain ⟨v, r, rfl, h1, h2⟩ := h
    simp only [List.set_cons_succ, RpAll]
    exact ⟨v, _, rfl, h1, RpAll.set i h2 q⟩
theorem RpAll.erase : ∀ {ds : List D} {vs : List V} (i : Nat), RpAll K H U ds vs → RpAll K H U (ds.eraseIdx i) (vs.eraseIdx i)
  | [], _, _, h => by simp only [RpAll] at h; subst h; simp [RpAll]
  | d :: ds, _, 0, h => by
    simp only [RpAll] at h
    obtain ⟨v, r, rfl, h1, h2⟩ := h
    exact h2
  | d :: ds, _, i + 1, h => by
    simp only [RpAll] at h
    obtain ⟨v, r, rfl, h1, h2⟩ := h
    simp only [List.eraseIdx_cons_succ, RpAll]
    exact ⟨v, _, rfl, h1, RpAll.erase i h2⟩
theorem RpAll.rev : ∀ {ds : List D} {vs : List V}, RpAll K H U ds vs → RpAll K H U ds.reverse vs.reverse
  | [], _, h => by simp only [RpAll] at h; subst h; simp [RpAll]
  | d :: ds, _, h => by
    simp only [RpAll] at h
    obtain ⟨v, r, rfl, h1, h2⟩ := h
    rw [List.reverse_cons, List.reverse_cons]
    exact RpAll.app (RpAll.rev h2) (RpAll.one h1)
theorem RpAll.dropLast {ds : List D} {vs : List V} (h : RpAll K H U ds vs) : RpAll K H U ds.dropLast vs.dropLast := by
  rw [List.dropLast_eq_take, List.dropLast_eq_take, h.len]
  exact h.take _
theorem RpAll.ints : ∀ {ns : List Int} {vs : List V}, RpAll K H U (ns.map D.int) vs → vs = ns.map V.int
  | [], _, h => by simpa only [List.map_nil, RpAll] using h
  | n :: ns, _, h => by
    simp only [List.map_cons, RpAll, Rp] at h
    obtain ⟨v, r, rfl, rfl, h2⟩ := h
    rw [RpAll.ints h2]; rfl
theorem RpAll.ofInts : ∀ (ns : List Int), RpAll K H U (ns.map D.int) (ns.map V.int)
  | [] => by simp [RpAll]
  | n :: ns => by simp only [List.map_cons, RpAll, Rp]; exact ⟨_, _, rfl, rfl, RpAll.ofInts ns⟩
theorem RpAll.strs : ∀ {ns : List Str} {vs : List V}, RpAll K H U (ns.map D.str) vs → vs = ns.map V.str
  | [], _, h => by simpa only [List.map_nil, RpAll] using h
  | n :: ns, _, h => by
    simp only [List.map_cons, RpAll, Rp] at h
    obtain ⟨v, r, rfl, rfl, h2⟩ := h
    rw [RpAll.strs h2]; rfl
theorem RpAll.bls : ∀ {ns : List Bool} {vs : List V}, RpAll K H U (ns.map D.bl) vs → vs = ns.map V.bl
  | [], _, h => by simpa only [List.map_nil, RpAll] using h
  | n :: ns, _, h => by
    simp only [List.map_cons, RpAll, Rp] at h
    obtain ⟨v, r, rfl, rfl, h2⟩ := h
    rw [RpAll.bls h2]; rfl

/-! ### names, constants, operators -/
def eVar (i : Nat) : T3E := fun ρ Q => match ρ[i]? with
  | some (.shr d) => Q (.val d) ρ
  | some .emp => False
  | some _ => Q (.sl i) ρ
  | none => False
theorem simVar (i : Nat) : SimE K (tVar i) (eVar i) := by
  intro F U ρ σ H Q3 Q2 e R h k
  show ∃ v, σ[i]? = some (some v) ∧ Q2 v H
  have h : (match ρ[i]? with | some (.shr d) => Q3 (.val d) ρ | some .emp => False | some _ => Q3 (.sl i) ρ | none => False) := h
  cases hs : ρ[i]? with
  | none => rw [hs] at h; exact h.elim
  | some s =>
    rw [hs] at h
    have hi : i < σ.length := by rw [← R.len]; exact (List.getElem?_eq_some_iff.mp hs).1
    have hσ : σ[i]? = some σ[i] := List.getElem?_eq_getElem hi
    have q := R.slot i s _ hs hσ
    cases s with
    | emp => exact h.elim
    | shr d => obtain ⟨v, e', q⟩ := q; exact ⟨v, by rw [hσ, e'], k (.val d) v _ _ R (.refl R) q h⟩
    | own d => obtain ⟨a, e', _, q⟩ := q; exact ⟨.ref a, by rw [hσ, e'], k (.sl i) _ _ _ R (.refl R) (show σ[i]? = _ by rw [hσ, e']) h⟩
    | par d => obtain ⟨a, e', _, q⟩ := q; exact ⟨.ref a, by rw [hσ, e'], k (.sl i) _ _ _ R (.refl R) (show σ[i]? = _ by rw [hσ, e']) h⟩
    | owb d => obtain ⟨a, e', _, q⟩ := q; exact ⟨.ref a, by rw [hσ, e'], k (.sl i) _ _ _ R (.refl R) (show σ[i]? = _ by rw [hσ, e']) h⟩
    | pab d => obtain ⟨a, e', _, q⟩ := q; exact ⟨.ref a, by rw [hσ, e'], k (.sl i) _ _ _ R (.refl R) (show σ[i]? = _ by rw [hσ, e']) h⟩
    | brw d =>
      rcases R.bor i d _ hs hσ with ⟨v, e', q⟩ | ⟨a, e', q, _⟩
      · exact ⟨v, by rw [hσ, e'], k (.sl i) _ _ _ R (.refl R) (show σ[i]? = _ by rw [hσ, e']) h⟩
      · exact ⟨.ref a, by rw [hσ, e'], k (.sl i) _ _ _ R (.refl R) (show σ[i]? = _ by rw [hσ, e']) h⟩
def eC (d : D) : T3E := fun ρ Q => Q (.val d) ρ
theorem simC {v : V} {d : D} (h : ∀ H U, Rp K H U d v) : SimE K (tC v) (eC d) := by
  intro F U ρ σ H Q3 Q2 e R q k
  exact k (.val d) v _ _ R (.refl R) (show Rp F.K H U d v by rw [e]; exact h H U) q
def eOp (r3 : Rs → Rs → En → (Rs → En → Prop) → Prop) (fa fb : T3E) : T3E := fun ρ Q => fa ρ fun x ρ1 => fb ρ1 fun y ρ2 => r3 x y ρ2 Q
theorem simOp {r2 : R2} {r3 : Rs → Rs → En → (Rs → En → Prop) → Prop} {ta tb : TE} {fa fb : T3E} (hr : SimR2 K r2 r3) (ha : SimE K ta fa) (hb : SimE K tb fb) : SimE K (tOp r2 ta tb) (eOp r3 fa fb) := by
  intro F U ρ σ H Q3 Q2 e R q k
  refine ha F U ρ σ H _ _ e R q fun x v ρ1 H1 R1 s1 q1 h1 => ?_
  refine hb F U ρ1 σ H1 _ _ e R1 h1 fun y u ρ2 H2 R2 s2 q2 h2 => ?_
  exact hr F U ρ2 σ H2 v u x y _ _ e R2 (q1.pres (s2.pres R1)) q2 h2 fun r w ρ3 H3 R3 s3 q3 h3 => k r w ρ3 H3 R3 ((s1.trans s2).trans s3) q3 h3
def eUn (r3 : Rs → En → (Rs → En → Prop) → Prop) (fa : T3E) : T3E := fun ρ Q => fa ρ fun x ρ1 => r3 x ρ1 Q
/-- the data of a result, what follows -/
def wd (x : Rs) (ρ : En) (k : D → Prop) : Prop := match x.dat ρ with
  | some d => k d
  | none => False
def wn (x : Rs) (ρ : En) (k : D → Prop) : Prop := match x.datN ρ with
  | some d => k d
  | none => False
theorem wd_out {x : Rs} {k : D → Prop} (h : wd x ρ k) : ∃ d, x.dat ρ = some d ∧ k d := by
  unfold wd at h
  cases e : x.dat ρ with
  | none => rw [e] at h; exact h.elim
  | some d => rw [e] at h; exact ⟨d, rfl, h⟩
theorem wn_out {x : Rs} {k : D → Prop} (h : wn x ρ k) : ∃ d, x.datN ρ = some d ∧ k d := by
  unfold wn at h
  cases e : x.datN ρ with
  | none => rw [e] at h; exact h.elim
  | some d => rw [e] at h; exact ⟨d, rfl, h⟩
/-- two ints -/
def w2I (x y : Rs) (ρ : En) (k : Int → Int → Prop) : Prop := wd x ρ fun dx => wd y ρ fun dy => match dx, dy with
  | .int i, .int j => k i j
  | _, _ => False
theorem w2I_out {x y : Rs} {k : Int → Int → Prop} (h : w2I x y ρ k) : ∃ i j, x.dat ρ = some (.int i) ∧ y.dat ρ = some (.int j) ∧ k i j := by
  obtain ⟨dx, e1, h⟩ := wd_out h
  obtain ⟨dy, e2, h⟩ := wd_out h
  cases dx <;> cases dy <;> first | exact ⟨_, _, e1, e2, h⟩ | exact h.elim
/-- two ints to a value that needs no heap -/
def oI (C : Int → Int → Prop) (g : Int → Int → D) (x y : Rs) (ρ : En) (Q : Rs → En → Prop) : Prop := w2I x y ρ fun i j => C i j ∧ Q (.val (g i j)) ρ
theorem simI {C : Int → Int → Prop} {g : Int → Int → V} {g' : Int → Int → D} (hg : ∀ i j H U, Rp K H U (g' i j) (g i j)) : SimR2 K (rI C g) (oI C g') := by
  intro F U ρ σ H x y rx ry Q3 Q2 e R h1 h2 h k
  obtain ⟨i, j, e1, e2, c, q⟩ := w2I_out h
  exact ⟨i, j, h1.int R e1, h2.int R e2, c, k (.val (g' i j)) _ _ _ R (.refl R) (show Rp F.K H U _ _ by rw [e]; exact hg i j H U) q⟩
def oI0 (g : Int → Int → D) (x y : Rs) (ρ : En) (Q : Rs → En → Prop) : Prop := w2I x y ρ fun i j => Q (.val (g i j)) ρ
theorem simI0 {g : Int → Int → V} {g' : Int → Int → D} (hg : ∀ i j H U, Rp K H U (g' i j) (g i j)) : SimR2 K (rI0 g) (oI0 g') := by
  intro F U ρ σ H x y rx ry Q3 Q2 e R h1 h2 h k
  obtain ⟨i, j, e1, e2, q⟩ := w2I_out h
  exact ⟨i, j, h1.int R e1, h2.int R e2, k (.val (g' i j)) _ _ _ R (.refl R) (show Rp F.K H U _ _ by rw [e]; exact hg i j H U) q⟩
/-- a new object that is shared at once -/
theorem rp_newL {F : Fr} {U : US} {ρ : En} {σ : St} {H : Hp} (R : Rel F U ρ σ H) {p : Addr} (hp : H p = none) {ds : List D} {vs : List V} (h : RpAll F.K H U ds vs) : Rp F.K (upd H p (.lst vs)) U (.lst ds) (.ref p) := by
  simp only [Rp]
  exact ⟨p, vs, rfl, ⟨upd_same, R.fresh hp⟩, RpAll.pres (fun a o e n => ⟨ext_new hp a o e, n⟩) ds vs h⟩
theorem rp_newT {F : Fr} {U : US} {ρ : En} {σ : St} {H : Hp} (R : Rel F U ρ σ H) {p : Addr} {ob : Obj} (hob : ob.dict = none) (hp : H p = none) {ds : List D} {vs : List V} (h : RpAll F.K H U ds vs) : Rp F.K (upd H p (.frz ob (.tup vs))) U (.tup ds) (.ref p) := by
  simp only [Rp]
  exact ⟨p, vs, rfl, .inl ⟨⟨ob, hob, upd_same⟩, R.fresh hp⟩, RpAll.pres (fun a o e n => ⟨ext_new hp a o e, n⟩) ds vs h⟩
end
end L3

set_option Elab.async false
set_option linter.all false
set_option maxRecDepth 100000
namespace L3
open PySem L2
open PyProof.Rows (b2i)

/-! ### equality of data -/
mutual
def D.toP : D → PyData
  | .non => .none
  | .bl b => .bool b
  | .int i => .int i
  | .str s => .str s
  | .tup xs => .tuple (D.toPs xs)
  | .lst xs => .list (D.toPs xs)
  | _ => .none
def D.toPs : List D → List PyData
  | [] => []
  | x :: xs => x.toP :: D.toPs xs
end
mutual
def D.ok : D → Bool
  | .non => true
  | .bl _ => true
  | .int _ => true
  | .str s => PyData.strOk s
  | .tup xs => D.oks xs
  | .lst xs => D.oks xs
  | _ => false
def D.oks : List D → Bool
  | [] => true
  | x :: xs => x.ok && D.oks xs
end
mutual
def D.dep : D → Nat
  | .tup xs => D.deps xs + 1
  | .lst xs => D.deps xs + 1
  | _ => 0
def D.deps : List D → Nat
  | [] => 0
  | x :: xs => max x.dep (D.deps xs)
end
mutual
def D.eqv : D → D → Bool
  | .non, .non => true
  | .bl a, .bl b => a == b
  | .bl a, .int j => (if a then 1 else 0) == j
  | .int i, .bl b => i == (if b then 1 else 0)
  | .int i, .int j => i == j
  | .str x, .str y => x == y
  | .tup xs, .tup ys => D.eqvs xs ys
  | .lst xs, .lst ys => D.eqvs xs ys
  | _, _ => false
def D.eqvs : List D → List D → Bool
  | [], [] => true
  | x :: xs, y :: ys => D.eqv x y && D.eqvs xs ys
  | _, _ => false
end
def D.shp (d : D) : Bool := d.ok && decide (d.dep ≤ 50)
mutual
theorem toP_dep : ∀ d : D, d.toP.depth = d.dep
  | .non => by simp [D.toP, D.dep, PyData.depth]
  | .bl _ => by simp [D.toP, D.dep, PyData.depth]
  | .int _ => by simp [D.toP, D.dep, PyData.depth]
  | .str _ => by simp [D.toP, D.dep, PyData.depth]
  | .tup xs => by simp [D.toP, D.dep, PyData.depth, toPs_dep xs]
  | .lst xs => by simp [D.toP, D.dep, PyData.depth, toPs_dep xs]
  | .dic _ => by simp [D.toP, D.dep, PyData.depth]
  | .dit _ => by simp [D.toP, D.dep, PyData.depth]
  | .obj _ _ => by simp [D.toP, D.dep, PyData.depth]
  | .ty _ => by simp [D.toP, D.dep, PyData.depth]
  | .cls _ => by simp [D.toP, D.dep, PyData.depth]
  | .scr _ => by simp [D.toP, D.dep, PyData.depth]
  | .bx _ _ => by simp [D.toP, D.dep, PyData.depth]
  | .din _ _ => by simp [D.toP, D.dep, PyData.depth]
  | .exc _ _ _ _ => by simp [D.toP, D.dep, PyData.depth]
  | .dik _ => by simp [D.toP, D.dep, PyData.depth]
theorem toPs_dep : ∀ ds : List D, PyData.depthAll (D.toPs ds) = D.deps ds
  | [] => by simp [D.toPs, D.deps, PyData.depthAll]
  | x :: xs => by simp [D.toPs, D.deps, PyData.depthAll, toP_dep x, toPs_dep xs]
end
mutual
theorem toP_ok : ∀ d : D, d.ok = true → d.toP.canLay0 = true
  | .non, _ => by simp [D.toP, PyData.canLay0]
  | .bl _, _ => by simp [D.toP, PyData.canLay0]
  | .int _, _ => by simp [D.toP, PyData.canLay0]
  | .str _, h => by simpa [D.toP, PyData.canLay0, D.ok] using h
  | .tup xs, h => by simpa [D.toP, PyData.canLay0] using toPs_ok xs (by simpa [D.ok] using h)
  | .lst xs, h => by simpa [D.toP, PyData.canLay0] using toPs_ok xs (by simpa [D.ok] using h)
  | .dic _, h => by simp [D.ok] at h
  | .dit _, h => by simp [D.ok] at h
  | .obj _ _, h => by simp [D.ok] at h
  | .ty _, h => by simp [D.ok] at h
  | .cls _, h => by simp [D.ok] at h
  | .scr _, h => by simp [D.ok] at h
  | .bx _ _, h => by simp [D.ok] at h
  | .din _ _, h => by simp [D.ok] at h
  | .exc _ _ _ _, h => by simp [D.ok] at h
  | .dik _, h => by simp [D.ok] at h
theorem toPs_ok : ∀ ds : List D, D.oks ds = true → PyData.canLayAll0 (D.toPs ds) = true
  | [], _ => by simp [D.toPs, PyData.canLayAll0]
  | x :: xs, h => by
    simp only [D.oks, Bool.and_eq_true] at h
    simp [D.toPs, PyData.canLayAll0, toP_ok x h.1, toPs_ok xs h.2]
end
theorem shp_shaped {d : D} (h : d.shp = true) : SeqAt.shaped d.toP = true := by
  unfold D.shp at h
  simp only [Bool.and_eq_true, decide_eq_true_eq] at h
  unfold SeqAt.shaped
  rw [toP_ok d h.1, toP_dep]
  simp; omega
mutual
theorem eqv_toP : ∀ d e : D, d.ok = true → e.ok = true → PyData.eqv d.toP e.toP = D.eqv d e
  | .tup xs, .tup ys, h, h' => by simpa [D.toP, PyData.eqv, D.eqv] using eqvs_toP xs ys (by simpa [D.ok] using h) (by simpa [D.ok] using h')
  | .lst xs, .lst ys, h, h' => by simpa [D.toP, PyData.eqv, D.eqv] using eqvs_toP xs ys (by simpa [D.ok] using h) (by simpa [D.ok] using h')
  | .non, e, _, h' => by cases e <;> first | (exfalso; simp [D.ok] at h'; done) | simp [D.toP, PyData.eqv, D.eqv]
  | .bl _, e, _, h' => by cases e <;> first | (exfalso; simp [D.ok] at h'; done) | simp [D.toP, PyData.eqv, D.eqv]
  | .int _, e, _, h' => by cases e <;> first | (exfalso; simp [D.ok] at h'; done) | simp [D.toP, PyData.eqv, D.eqv]
  | .str _, e, _, h' => by cases e <;> first | (exfalso; simp [D.ok] at h'; done) | simp [D.toP, PyData.eqv, D.eqv]
  | .tup _, .non, _, _ => by simp [D.toP, PyData.eqv, D.eqv]
  | .tup _, .bl _, _, _ => by simp [D.toP, PyData.eqv, D.eqv]
  | .tup _, .int _, _, _ => by simp [D.toP, PyData.eqv, D.eqv]
  | .tup _, .str _, _, _ => by simp [D.toP, PyData.eqv, D.eqv]
  | .tup _, .lst _, _, _ => by simp [D.toP, PyData.eqv, D.eqv]
  | .tup _, .dic _, _, h => by simp [D.ok] at h
  | .tup _, .dit _, _, h => by simp [D.ok] at h
  | .tup _, .obj _ _, _, h => by simp [D.ok] at h
  | .tup _, .ty _, _, h => by simp [D.ok] at h
  | .tup _, .cls _, _, h => by simp [D.ok] at h
  | .tup _, .scr _, _, h => by simp [D.ok] at h
  | .tup _, .bx _ _, _, h => by simp [D.ok] at h
  | .tup _, .din _ _, _, h => by simp [D.ok] at h
  | .tup _, .exc _ _ _ _, _, h => by simp [D.ok] at h
  | .tup _, .dik _, _, h => by simp [D.ok] at h
  | .lst _, .non, _, _ => by simp [D.toP, PyData.eqv, D.eqv]
  | .lst _, .bl _, _, _ => by simp [D.toP, PyData.eqv, D.eqv]
  | .lst _, .int _, _, _ => by simp [D.toP, PyData.eqv, D.eqv]
  | .lst _, .str _, _, _ => by simp [D.toP, PyData.eqv, D.eqv]
  | .lst _, .tup _, _, _ => by simp [D.toP, PyData.eqv, D.eqv]
  | .lst _, .dic _, _, h => by simp [D.ok] at h
  | .lst _, .dit _, _, h => by simp [D.ok] at h
  | .lst _, .obj _ _, _, h => by simp [D.ok] at h
  | .lst _, .ty _, _, h => by simp [D.ok] at h
  | .lst _, .cls _, _, h => by simp [D.ok] at h
  | .lst _, .scr _, _, h => by simp [D.ok] at h
  | .lst _, .bx _ _, _, h => by simp [D.ok] at h
  | .lst _, .din _ _, _, h => by simp [D.ok] at h
  | .lst _, .exc _ _ _ _, _, h => by simp [D.ok] at h
  | .lst _, .dik _, _, h => by simp [D.ok] at h
  | .dic _, _, h, _ => by simp [D.ok] at h
  | .dit _, _, h, _ => by simp [D.ok] at h
  | .obj _ _, _, h, _ => by simp [D.ok] at h
  | .ty _, _, h, _ => by simp [D.ok] at h
  | .cls _, _, h, _ => by simp [D.ok] at h
  | .scr _, _, h, _ => by simp [D.ok] at h
  | .bx _ _, _, h, _ => by simp [D.ok] at h
  | .din _ _, _, h, _ => by simp [D.ok] at h
  | .exc _ _ _ _, _, h, _ => by simp [D.ok] at h
  | .dik _, _, h, _ => by simp [D.ok] at h
theorem eqvs_toP : ∀ ds es : List D, D.oks ds = true → D.oks es = true → PyData.eqvAll (D.toPs ds) (D.toPs es) = D.eqvs ds es
  | [], [], _, _ => by simp [D.toPs, PyData.eqvAll, D.eqvs]
  | [], _ :: _, _, _ => by simp [D.toPs, PyData.eqvAll, D.eqvs]
  | _ :: _, [], _, _ => by simp [D.toPs, PyData.eqvAll, D.eqvs]
  | x :: xs, y :: ys, h, h' => by
    simp only [D.oks, Bool.and_eq_true] at h h'
    simp [D.toPs, PyData.eqvAll, D.eqvs, eqv_toP x y h.1 h'.1, eqvs_toP xs ys h.2 h'.2]
end
theorem toPs_any (e : D) (he : e.ok = true) : ∀ ds : List D, D.oks ds = true → ((D.toPs ds).any fun z => PyData.eqv z e.toP) = ds.any fun z => D.eqv z e
  | [], _ => by simp [D.toPs]
  | x :: xs, h => by
    simp only [D.oks, Bool.and_eq_true] at h
    simp [D.toPs, eqv_toP x e h.1 he, toPs_any e he xs h.2]
section
variable {F : Fr} {U : US} {ρ ρ' ρ2 : En} {σ : St} {H H' H2 : Hp} {K : PySem.W.Frag}
mutual
theorem Rp.dp : ∀ (d : D) (v : V), d.ok = true → Rp K H U d v → Dp K H v d.toP
  | .non, _, _, h => by simp only [Rp] at h; subst h; exact .non
  | .bl _, _, _, h => by simp only [Rp] at h; subst h; exact .bl _
  | .int _, _, _, h => by simp only [Rp] at h; subst h; exact .int _
  | .str _, _, _, h => by simp only [Rp] at h; subst h; exact .str _
  | .tup ds, _, o, h => by
    simp only [Rp] at h
    obtain ⟨a, vs, rfl, h1, h2⟩ := h
    simp only [D.toP]
    exact .tup h1.sq (RpAll.dp ds vs (by simpa [D.ok] using o) h2)
  | .lst ds, _, o, h => by
    simp only [Rp] at h
    obtain ⟨a, vs, rfl, h1, h2⟩ := h
    simp only [D.toP]
    exact .lst (.inl (.inl h1.1)) (RpAll.dp ds vs (by simpa [D.ok] using o) h2)
  | .dic _, _, o, _ => by simp [D.ok] at o
  | .dit _, _, o, _ => by simp [D.ok] at o
  | .obj _ _, _, o, _ => by simp [D.ok] at o
  | .ty _, _, o, _ => by simp [D.ok] at o
  | .cls _, _, o, _ => by simp [D.ok] at o
  | .scr _, _, o, _ => by simp [D.ok] at o
  | .bx _ _, _, o, _ => by simp [D.ok] at o
  | .din _ _, _, o, _ => by simp [D.ok] at o
  | .exc _ _ _ _, _, o, _ => by simp [D.ok] at o
  | .dik _, _, o, _ => by simp [D.ok] at o
theorem RpAll.dp : ∀ (ds : List D) (vs : List V), D.oks ds = true → RpAll K H U ds vs → DpAll K H vs (D.toPs ds)
  | [], _, _, h => by simp only [RpAll] at h; subst h; simp only [D.toPs]; exact .nil
  | d :: ds, _, o, h => by
    simp only [RpAll] at h
    obtain ⟨v, r, rfl, h1, h2⟩ := h
    simp only [D.oks, Bool.and_eq_true] at o
    simp only [D.toPs]
    exact .cons (Rp.dp d v o.1 h1) (RpAll.dp ds r o.2 h2)
end
theorem RV.dp (R : Rel F U ρ σ H) {r : Rs} {v : V} {d : D} (h : RV F U σ H r v) (e : r.dat ρ = some d) (o : d.ok = true) : Dp F.K H v d.toP := by
  rcases h.get R e with q | ⟨a, rfl, q⟩
  · exact Rp.dp d v o q
  · cases d with
    | lst ds =>
      obtain ⟨vs, h1, h2⟩ := q
      simp only [D.toP]
      exact .lst (.inl h1) (RpAll.dp ds vs (by simpa [D.ok] using o) h2)
    | dic _ => simp [D.ok] at o
    | dit _ => simp [D.ok] at o
    | obj _ _ => simp [D.ok] at o
    | din _ _ => simp [D.ok] at o
    | _ => exact q.elim
theorem rp_bl {b : Bool} : Rp K H U (.bl b) (.bl b) := by simp only [Rp]
theorem rp_int {b : Int} : Rp K H U (.int b) (.int b) := by simp only [Rp]
theorem rp_str {b : Str} : Rp K H U (.str b) (.str b) := by simp only [Rp]
theorem rp_non : Rp K H U .non .non := by simp only [Rp]
def oEq (neg : Bool) (x y : Rs) (ρ : En) (Q : Rs → En → Prop) : Prop := wd x ρ fun dx => wd y ρ fun dy => dx.shp = true ∧ dy.shp = true ∧ Q (.val (.bl (if neg then !D.eqv dx dy else D.eqv dx dy))) ρ
theorem simEq : SimR2 K (rEqD K) (oEq false) := by
  intro F U ρ σ H x y rx ry Q3 Q2 e R h1 h2 h k
  obtain ⟨dx, e1, h⟩ := wd_out h
  obtain ⟨dy, e2, h⟩ := wd_out h
  obtain ⟨s1, s2, q⟩ := h
  have o1 : dx.ok = true := (Bool.and_eq_true_iff.mp s1).1
  have o2 : dy.ok = true := (Bool.and_eq_true_iff.mp s2).1
  subst e
  refine ⟨dx.toP, dy.toP, h1.dp R e1 o1, h2.dp R e2 o2, shp_shaped s1, shp_shaped s2, ?_⟩
  rw [eqv_toP dx dy o1 o2]
  exact k (.val (.bl _)) _ _ _ R (.refl R) (show Rp F.K H U _ _ from rp_bl) q
theorem simNe : SimR2 K (rNeD K) (oEq true) := by
  intro F U ρ σ H x y rx ry Q3 Q2 e R h1 h2 h k
  obtain ⟨dx, e1, h⟩ := wd_out h
  obtain ⟨dy, e2, h⟩ := wd_out h
  obtain ⟨s1, s2, q⟩ := h
  have o1 : dx.ok = true := (Bool.and_eq_true_iff.mp s1).1
  have o2 : dy.ok = true := (Bool.and_eq_true_iff.mp s2).1
  subst e
  refine ⟨dx.toP, dy.toP, h1.dp R e1 o1, h2.dp R e2 o2, shp_shaped s1, shp_shaped s2, ?_⟩
  rw [eqv_toP dx dy o1 o2]
  exact k (.val (.bl _)) _ _ _ R (.refl R) (show Rp F.K H U _ _ from rp_bl) q
/-- x in a list or a tuple of data -/
def rInS (K : PySem.W.Frag) (neg : Bool) : R2 := fun x y H Q => ∃ d ds, Dp K H x d ∧ (Dp K H y (.list ds) ∨ Dp K H y (.tuple ds)) ∧ SeqAt.shaped d = true ∧ SeqAt.shaped (.list ds) = true ∧ Q (.bl (if neg then !(ds.any fun z => PyData.eqv z d) else ds.any fun z => PyData.eqv z d)) H
theorem op_inS {X : Cx} (hu : X.A.units + 65 < cLine) : OpR X (compareOp .In) (rInS X.K false) := by
  intro pins s σ H x y v u Q I rx ry h
  obtain ⟨d, ds, hd, he, sd, se, q⟩ := h
  obtain ⟨as, r1⟩ := Dp.reads I d x v hd rx
  have hxs : PyData.canLayAll0 ds = true := by simpa [PyData.canLay0] using SeqAt.canLay_of_shaped se
  rcases he with he | he
  · obtain ⟨bs, r2⟩ := Dp.reads I (.list ds) y u he ry
    exact SeqAt.in_list_reads r2 r1 hxs (SeqAt.canLay_of_shaped sd) (PyProof.Rows.room_in_shaped sd hu) ⟨.bl _, H, I, rfl, q⟩
  · obtain ⟨bs, r2⟩ := Dp.reads I (.tuple ds) y u he ry
    exact SeqAt.in_tuple_reads r2 r1 hxs (SeqAt.canLay_of_shaped sd) (PyProof.Rows.room_in_shaped sd hu) ⟨.bl _, H, I, rfl, q⟩
theorem op_notInS {X : Cx} (hu : X.A.units + 65 < cLine) : OpR X (compareOp .NotIn) (rInS X.K true) := by
  intro pins s σ H x y v u Q I rx ry h
  obtain ⟨d, ds, hd, he, sd, se, q⟩ := h
  obtain ⟨as, r1⟩ := Dp.reads I d x v hd rx
  have hxs : PyData.canLayAll0 ds = true := by simpa [PyData.canLay0] using SeqAt.canLay_of_shaped se
  rcases he with he | he
  · obtain ⟨bs, r2⟩ := Dp.reads I (.list ds) y u he ry
    exact SeqAt.notIn_list_reads r2 r1 hxs (SeqAt.canLay_of_shaped sd) (PyProof.Rows.room_in_shaped sd hu) ⟨.bl _, H, I, rfl, q⟩
  · obtain ⟨bs, r2⟩ := Dp.reads I (.tuple ds) y u he ry
    exact SeqAt.notIn_tuple_reads r2 r1 hxs (SeqAt.canLay_of_shaped sd) (PyProof.Rows.room_in_shaped sd hu) ⟨.bl _, H, I, rfl, q⟩
def oIn (neg : Bool) (x y : Rs) (ρ : En) (Q : Rs → En → Prop) : Prop := wd x ρ fun dx => wd y ρ fun dy => match dy with
  | .lst ds => dx.shp = true ∧ (D.lst ds).shp = true ∧ Q (.val (.bl (if neg then !(ds.any fun z => D.eqv z dx) else ds.any fun z => D.eqv z dx))) ρ
  | .tup ds => dx.shp = true ∧ (D.tup ds).shp = true ∧ Q (.val (.bl (if neg then !(ds.any fun z => D.eqv z dx) else ds.any fun z => D.eqv z dx))) ρ
  | _ => False
theorem simIn (neg : Bool) : SimR2 K (rInS K neg) (oIn neg) := by
  intro F U ρ σ H x y rx ry Q3 Q2 e R h1 h2 h k
  obtain ⟨dx, e1, h⟩ := wd_out h
  obtain ⟨dy, e2, h⟩ := wd_out h
  subst e
  cases dy with
  | lst ds =>
    obtain ⟨s1, s2, q⟩ := h
    have o1 : dx.ok = true := (Bool.and_eq_true_iff.mp s1).1
    have o2 : (D.lst ds).ok = true := (Bool.and_eq_true_iff.mp s2).1
    have z := h2.dp R e2 o2
    have y2 := shp_shaped s2
    simp only [D.toP] at z y2
    refine ⟨dx.toP, D.toPs ds, h1.dp R e1 o1, .inl z, shp_shaped s1, y2, ?_⟩
    rw [toPs_any dx o1 ds (by simpa [D.ok] using o2)]
    exact k (.val (.bl _)) _ _ _ R (.refl R) (show Rp F.K H U _ _ from rp_bl) q
  | tup ds =>
    obtain ⟨s1, s2, q⟩ := h
    have o1 : dx.ok = true := (Bool.and_eq_true_iff.mp s1).1
    have o2 : (D.tup ds).ok = true := (Bool.and_eq_true_iff.mp s2).1
    have z := h2.dp R e2 o2
    have y2 := shp_shaped s2
    simp only [D.toP] at z
    have y3 : SeqAt.shaped (.list (D.toPs ds)) = true := by
      simpa [SeqAt.shaped, D.toP, PyData.canLay0, PyData.depth] using y2
    refine ⟨dx.toP, D.toPs ds, h1.dp R e1 o1, .inr z, shp_shaped s1, y3, ?_⟩
    rw [toPs_any dx o1 ds (by simpa [D.ok] using o2)]
    exact k (.val (.bl _)) _ _ _ R (.refl R) (show Rp F.K H U _ _ from rp_bl) q
  | _ => exact h.elim
/-- a text in a text -/
def rInT (neg : Bool) : R2 := fun x y H Q => ∃ i j, x = .str i ∧ y = .str j ∧ Q (.bl (if neg then !(!(Builtin.Str.occurrences j i 0 j.length 1).isEmpty) else !(Builtin.Str.occurrences j i 0 j.length 1).isEmpty)) H
theorem op_inT {X : Cx} : OpR X (compareOp .In) (rInT false) := fun pins s σ H x y v u Q I rx ry h => op_in_str pins s σ H x y v u Q I rx ry h
theorem op_notInT {X : Cx} : OpR X (compareOp .NotIn) (rInT true) := fun pins s σ H x y v u Q I rx ry h => op_notin_str pins s σ H x y v u Q I rx ry h
def oInT (neg : Bool) (x y : Rs) (ρ : En) (Q : Rs → En → Prop) : Prop := wd x ρ fun dx => wd y ρ fun dy => match dx, dy with
  | .str i, .str j => Q (.val (.bl (if neg then !(!(Builtin.Str.occurrences j i 0 j.length 1).isEmpty) else !(Builtin.Str.occurrences j i 0 j.length 1).isEmpty))) ρ
  | _, _ => False
theorem simInT (neg : Bool) : SimR2 K (rInT neg) (oInT neg) := by
  intro F U ρ σ H x y rx ry Q3 Q2 e R h1 h2 h k
  obtain ⟨dx, e1, h⟩ := wd_out h
  obtain ⟨dy, e2, h⟩ := wd_out h
  cases dx <;> cases dy <;> first | exact ⟨_, _, h1.str R e1, h2.str R e2, k (.val (.bl _)) _ _ _ R (.refl R) (show Rp F.K H U _ _ from rp_bl) h⟩ | exact h.elim
def D.isNon : D → Bool
  | .non => true
  | _ => false
/-- is None -/
def oIsN (neg : Bool) (x y : Rs) (ρ : En) (Q : Rs → En → Prop) : Prop := wd x ρ fun dx => wd y ρ fun dy => match dy with
  | .non => Q (.val (.bl (if neg then !dx.isNon else dx.isNon))) ρ
  | _ => False
theorem non_dec (R : Rel F U ρ σ H) {r : Rs} {v : V} {d : D} (h : RV F U σ H r v) (e : r.dat ρ = some d) : decide (v = V.non) = d.isNon := by
  rcases h.get R e with q | ⟨a, rfl, q⟩
  · cases d <;> simp only [Rp] at q
    all_goals first
      | (subst q; rfl)
      | (obtain ⟨e', q⟩ := q; subst e'; rfl)
      | (obtain ⟨a, e', q⟩ := q; subst e'; rfl)
      | (obtain ⟨a, vs, e', q⟩ := q; subst e'; rfl)
      | (obtain ⟨a, dx, gs, e', q⟩ := q; subst e'; rfl)
  · cases d <;> first | rfl | exact q.elim
theorem simIsN : SimR2 K (fun x y H Q => y = .non ∧ Q (.bl (decide (x = .non))) H) (oIsN false) := by
  intro F U ρ σ H x y rx ry Q3 Q2 e R h1 h2 h k
  obtain ⟨dx, e1, h⟩ := wd_out h
  obtain ⟨dy, e2, h⟩ := wd_out h
  cases dy <;> first | exact h.elim | skip
  refine ⟨h2.non R e2, ?_⟩
  rw [non_dec R h1 e1]
  exact k (.val (.bl _)) _ _ _ R (.refl R) (show Rp F.K H U _ _ from rp_bl) h
theorem simNotN : SimR2 K (fun x y H Q => y = .non ∧ Q (.bl (!decide (x = .non))) H) (oIsN true) := by
  intro F U ρ σ H x y rx ry Q3 Q2 e R h1 h2 h k
  obtain ⟨dx, e1, h⟩ := wd_out h
  obtain ⟨dy, e2, h⟩ := wd_out h
  cases dy <;> first | exact h.elim | skip
  refine ⟨h2.non R e2, ?_⟩
  rw [non_dec R h1 e1]
  exact k (.val (.bl _)) _ _ _ R (.refl R) (show Rp F.K H U _ _ from rp_bl) h
/-- + of ints, texts, tuples, lists -/
def r2Add (K : PySem.W.Frag) : R2 := fun x y H Q => (rI0 (fun i j => .int (i + j))) x y H Q ∨ (∃ i j, x = .str i ∧ y = .str j ∧ i.length + j.length ≤ sizeLine ∧ Q (.str (i ++ j)) H) ∨ rCatF K x y H Q ∨ rCat x y H Q ∨ (∃ i k, x = .int i ∧ y = .bl k ∧ Q (.int (i + b2i k)) H)
theorem op_addP {X : Cx} : OpR X (binaryOp .Add) (r2Add X.K) := op_add.or (op_add_str.or (op_catF.or (op_cat.or op_add_ib)))
def oAdd (x y : Rs) (ρ : En) (Q : Rs → En → Prop) : Prop := wn x ρ fun dx => wn y ρ fun dy => match dx, dy with
  | .int i, .int j => Q (.val (.int (i + j))) ρ
  | .int i, .bl b => Q (.val (.int (i + b2i b))) ρ
  | .str i, .str j => i.length + j.length ≤ sizeLine ∧ Q (.val (.str (i ++ j))) ρ
  | .tup xs, .tup ys => xs.length + ys.length ≤ sizeLine ∧ Q (.val (.tup (xs ++ ys))) ρ
  | .lst xs, .lst ys => xs.length + ys.length ≤ sizeLine ∧ Q (.val (.lst (xs ++ ys))) ρ
  | _, _ => False
theorem simAdd : SimR2 K (r2Add K) oAdd := by
  intro F U ρ σ H x y rx ry Q3 Q2 e R h1 h2 h k
  obtain ⟨dx, e1, h⟩ := wn_out h
  obtain ⟨dy, e2, h⟩ := wn_out h
  have f1 := Rs.dat_of_datN e1
  have f2 := Rs.dat_of_datN e2
  subst e
  cases dx <;> cases dy
  all_goals first | exact h.elim | skip
  · exact .inr (.inr (.inr (.inr ⟨_, _, h1.int R f1, h2.bl R f2, k (.val (.int _)) _ _ _ R (.refl R) (show Rp F.K H U _ _ from rp_int) h⟩)))
  · exact .inl ⟨_, _, h1.int R f1, h2.int R f2, k (.val (.int _)) _ _ _ R (.refl R) (show Rp F.K H U _ _ from rp_int) h⟩
  · exact .inr (.inl ⟨_, _, h1.str R f1, h2.str R f2, h.1, k (.val (.str _)) _ _ _ R (.refl R) (show Rp F.K H U _ _ from rp_str) h.2⟩)
  · rename_i xs _ ys
    obtain ⟨a, vs, rfl, q1, q2, q3⟩ := h1.tup R f1
    obtain ⟨b, ws, rfl, p1, p2, p3⟩ := h2.tup R f2
    refine .inr (.inr (.inl ⟨a, b, vs, ws, rfl, rfl, q1, p1, by rw [q2.len, p2.len]; exact h.1, fun z => ?_, fun z1 z2 => ?_, fun z1 z2 p ob hp hob => ?_⟩))
    · have : xs = [] := by have := q2.len; rw [z] at this; exact List.eq_nil_of_length_eq_zero this.symm
      subst this
      exact k (.val (.tup _)) _ _ _ R (.refl R) (show Rp F.K H U _ _ from p3) h.2
    · have : ys = [] := by have := p2.len; rw [z2] at this; exact List.eq_nil_of_length_eq_zero this.symm
      subst this
      have h2 := h.2
      rw [List.append_nil] at h2
      exact k (.val (.tup _)) _ _ _ R (.refl R) (show Rp F.K H U _ _ from q3) h2
    · exact k (.val (.tup _)) _ _ _ (R.ext (ext_new hp)) (.ext (ext_new hp)) (rp_newT R hob hp (q2.app p2)) h.2
  · obtain ⟨a, vs, rfl, q1, q2⟩ := h1.lstN R e1
    obtain ⟨b, ws, rfl, p1, p2⟩ := h2.lstN R e2
    exact .inr (.inr (.inr (.inl ⟨a, b, vs, ws, rfl, rfl, q1, p1, by rw [q2.len, p2.len]; exact h.1, fun p hp =>
      k (.val (.lst _)) _ _ _ (R.ext (ext_new hp)) (.ext (ext_new hp)) (rp_newL R hp (q2.app p2)) h.2⟩)))
/-- * of ints, of an int and a truth value, of a list and an int -/
def r2Mul : R2 := fun x y H Q => (rI CMul fun i j => .int (i * j)) x y H Q ∨ (∃ i k, x = .int i ∧ y = .bl k ∧ Q (.int (i * if k = true then (1 : Int) else 0)) H) ∨ rRep x y H Q
theorem op_mul_ib {X : Cx} : OpR X (binaryOp .Mult) (fun x y H Q => ∃ i k, x = .int i ∧ y = .bl k ∧ Q (.int (i * if k = true then (1 : Int) else 0)) H) := by
  intro pins s σ H x y v u Q I rx ry h
  obtain ⟨i, k, rfl, rfl, q⟩ := h
  obtain ⟨t, rfl⟩ := rx
  cases ry
  exact PySem.IntBool.mul_int_bool ⟨.int _, H, I.tok _, ⟨_, rfl⟩, q⟩
theorem op_mulP {X : Cx} : OpR X (binaryOp .Mult) r2Mul := op_mul.or (op_mul_ib.or op_rep)
def oMul (x y : Rs) (ρ : En) (Q : Rs → En → Prop) : Prop := wn x ρ fun dx => wn y ρ fun dy => match dx, dy with
  | .int i, .int j => CMul i j ∧ Q (.val (.int (i * j))) ρ
  | .int i, .bl b => Q (.val (.int (i * if b = true then (1 : Int) else 0))) ρ
  | .lst xs, .int k => (-(2 ^ 63) ≤ k ∧ k < 2 ^ 63 ∧ xs.length * k.toNat ≤ sizeLine) ∧ Q (.val (.lst (List.replicate k.toNat xs).flatten)) ρ
  | _, _ => False
theorem RpAll.rep {ds : List D} {vs : List V} (h : RpAll K H U ds vs) : ∀ n, RpAll K H U (List.replicate n ds).flatten (List.replicate n vs).flatten
  | 0 => by simp [RpAll]
  | n + 1 => by rw [List.replicate_succ, List.replicate_succ, List.flatten_cons, List.flatten_cons]; exact h.app (h.rep n)
theorem simMul : SimR2 K r2Mul oMul := by
  intro F U ρ σ H x y rx ry Q3 Q2 e R h1 h2 h k
  obtain ⟨dx, e1, h⟩ := wn_out h
  obtain ⟨dy, e2, h⟩ := wn_out h
  have f1 := Rs.dat_of_datN e1
  have f2 := Rs.dat_of_datN e2
  subst e
  cases dx <;> cases dy
  all_goals first | exact h.elim | skip
  · exact .inr (.inl ⟨_, _, h1.int R f1, h2.bl R f2, k (.val (.int _)) _ _ _ R (.refl R) (show Rp F.K H U _ _ from rp_int) h⟩)
  · exact .inl ⟨_, _, h1.int R f1, h2.int R f2, h.1, k (.val (.int _)) _ _ _ R (.refl R) (show Rp F.K H U _ _ from rp_int) h.2⟩
  · obtain ⟨a, vs, rfl, q1, q2⟩ := h1.lstN R e1
    exact .inr (.inr ⟨a, _, vs, rfl, h2.int R f2, q1, h.1.1, h.1.2.1, by rw [q2.len]; exact h.1.2.2, fun p hp =>
      k (.val (.lst _)) _ _ _ (R.ext (ext_new hp)) (.ext (ext_new hp)) (rp_newL R hp (q2.rep _)) h.2⟩)
end
end L3

set_option Elab.async false
set_option linter.all false
set_option maxRecDepth 100000
namespace L3
open PySem L2
open PyProof.Rows (b2i)

section
variable {F : Fr} {U : US} {ρ ρ' ρ2 : En} {σ : St} {H H' H2 : Hp} {K : PySem.W.Frag}
/-! ### tests -/
def wb (r : Rs) (ρ : En) (k : Bool → Prop) : Prop := wd r ρ fun d => match d with
  | .bl b => k b
  | _ => False
theorem wb_out {r : Rs} {k : Bool → Prop} (h : wb r ρ k) : ∃ b, r.dat ρ = some (.bl b) ∧ k b := by
  obtain ⟨d, e, h⟩ := wd_out h
  cases d <;> first | exact ⟨_, e, h⟩ | exact h.elim
def fTst (f : T3E) : T3T := fun ρ Q => f ρ fun r ρ1 => wb r ρ1 fun b => Q b ρ1
theorem simTst {t : TE} {f : T3E} (h : SimE K t f) : SimT K (tTest t) (fTst f) := by
  intro F U ρ σ H Q3 Q2 e R q k
  refine h F U ρ σ H _ _ e R q fun r v ρ1 H1 R1 s1 q1 h1 => ?_
  obtain ⟨b, e1, h1⟩ := wb_out h1
  exact ⟨b, q1.bl R1 e1, k b ρ1 H1 R1 s1 h1⟩
theorem simTB {t : TE} {f : T3E} (h : SimE K t f) : SimT K (tB t) (fTst f) := simTst h
/-- truth -/
def wtru (d : D) (k : Bool → Prop) : Prop := match d with
  | .non => k false
  | .bl b => k b
  | .int i => k (i != 0)
  | .str z => z.length ≤ sizeLine ∧ k ((z.length : Int) != 0)
  | .lst xs => k (!xs.isEmpty)
  | .tup xs => k (!xs.isEmpty)
  | _ => False
theorem isE_of {ds : List D} {vs : List V} (h : RpAll K H U ds vs) : vs.isEmpty = ds.isEmpty := by
  have := h.len
  cases ds <;> cases vs <;> first | rfl | simp at this
theorem wtru_out (R : Rel F U ρ σ H) {r : Rs} {v : V} {d : D} {k : Bool → Prop} (h : RV F U σ H r v) (e : r.dat ρ = some d) (q : wtru d k) : ∃ b, TruV F.K v H b ∧ k b := by
  cases d with
  | non => rw [h.non R e]; exact ⟨false, rfl, q⟩
  | bl b => rw [h.bl R e]; exact ⟨b, rfl, q⟩
  | int i => rw [h.int R e]; exact ⟨_, rfl, q⟩
  | str z => rw [h.str R e]; exact ⟨_, ⟨q.1, rfl⟩, q.2⟩
  | lst ds =>
    obtain ⟨a, vs, rfl, h1, h2⟩ := h.lst R e
    exact ⟨_, .inl ⟨vs, h1, by rw [isE_of h2]⟩, q⟩
  | tup ds =>
    obtain ⟨a, vs, rfl, h1, h2, _⟩ := h.tup R e
    exact ⟨_, .inr (.inl ⟨vs, h1, by rw [isE_of h2]⟩), q⟩
  | _ => exact q.elim
def fTru (f : T3E) : T3T := fun ρ Q => f ρ fun r ρ1 => wd r ρ1 fun d => wtru d fun b => Q b ρ1
theorem simTru {t : TE} {f : T3E} (h : SimE K t f) : SimT K (fun σ H Q => t σ H fun x H' => ∃ k, TruV K x H' k ∧ Q k H') (fTru f) := by
  intro F U ρ σ H Q3 Q2 e R q k
  subst e
  refine h F U ρ σ H _ _ rfl R q fun r v ρ1 H1 R1 s1 q1 h1 => ?_
  obtain ⟨d, e1, h1⟩ := wd_out h1
  obtain ⟨b, t1, h1⟩ := wtru_out R1 q1 e1 h1
  exact ⟨b, t1, k b ρ1 H1 R1 s1 h1⟩
def fAnd (f g : T3T) : T3T := fun ρ Q => f ρ fun b ρ1 => if b = true then g ρ1 Q else Q false ρ1
def fOr (f g : T3T) : T3T := fun ρ Q => f ρ fun b ρ1 => if b = true then Q true ρ1 else g ρ1 Q
def fNot (f : T3T) : T3T := fun ρ Q => f ρ fun b ρ1 => Q (!b) ρ1
theorem simAnd {t u : TT} {f g : T3T} (h : SimT K t f) (h' : SimT K u g) : SimT K (tAnd t u) (fAnd f g) := by
  intro F U ρ σ H Q3 Q2 e R q k
  refine h F U ρ σ H _ _ e R q fun b ρ1 H1 R1 s1 h1 => ?_
  cases b with
  | true => exact h' F U ρ1 σ H1 _ _ e R1 h1 fun c ρ2 H2 R2 s2 h2 => k c ρ2 H2 R2 (s1.trans s2) h2
  | false => exact k false ρ1 H1 R1 s1 h1
theorem simOr {t u : TT} {f g : T3T} (h : SimT K t f) (h' : SimT K u g) : SimT K (tOr t u) (fOr f g) := by
  intro F U ρ σ H Q3 Q2 e R q k
  refine h F U ρ σ H _ _ e R q fun b ρ1 H1 R1 s1 h1 => ?_
  cases b with
  | false => exact h' F U ρ1 σ H1 _ _ e R1 h1 fun c ρ2 H2 R2 s2 h2 => k c ρ2 H2 R2 (s1.trans s2) h2
  | true => exact k true ρ1 H1 R1 s1 h1
theorem simNot {t : TT} {f : T3T} (h : SimT K t f) : SimT K (tNot t) (fNot f) := by
  intro F U ρ σ H Q3 Q2 e R q k
  exact h F U ρ σ H _ _ e R q fun b ρ1 H1 R1 s1 h1 => k (!b) ρ1 H1 R1 s1 h1
/-- .. as values -/
def eAnd (f g : T3E) : T3E := fun ρ Q => f ρ fun r ρ1 => wd r ρ1 fun d => wtru d fun b => if b = true then g ρ1 Q else Q r ρ1
def eOr (f g : T3E) : T3E := fun ρ Q => f ρ fun r ρ1 => wd r ρ1 fun d => wtru d fun b => if b = true then Q r ρ1 else g ρ1 Q
def eNot (f : T3E) : T3E := fun ρ Q => f ρ fun r ρ1 => wd r ρ1 fun d => wtru d fun b => Q (.val (.bl (!b))) ρ1
theorem simAndV {t u : TE} {f g : T3E} (h : SimE K t f) (h' : SimE K u g) : SimE K (tAndT K t u) (eAnd f g) := by
  intro F U ρ σ H Q3 Q2 e R q k
  subst e
  refine h F U ρ σ H _ _ rfl R q fun r v ρ1 H1 R1 s1 q1 h1 => ?_
  obtain ⟨d, e1, h1⟩ := wd_out h1
  obtain ⟨b, t1, h1⟩ := wtru_out R1 q1 e1 h1
  refine ⟨b, t1, ?_⟩
  cases b with
  | true => exact h' F U ρ1 σ H1 _ _ rfl R1 h1 fun c w ρ2 H2 R2 s2 q2 h2 => k c w ρ2 H2 R2 (s1.trans s2) q2 h2
  | false => exact k r v ρ1 H1 R1 s1 q1 h1
theorem simOrV {t u : TE} {f g : T3E} (h : SimE K t f) (h' : SimE K u g) : SimE K (tOrT K t u) (eOr f g) := by
  intro F U ρ σ H Q3 Q2 e R q k
  subst e
  refine h F U ρ σ H _ _ rfl R q fun r v ρ1 H1 R1 s1 q1 h1 => ?_
  obtain ⟨d, e1, h1⟩ := wd_out h1
  obtain ⟨b, t1, h1⟩ := wtru_out R1 q1 e1 h1
  refine ⟨b, t1, ?_⟩
  cases b with
  | false => exact h' F U ρ1 σ H1 _ _ rfl R1 h1 fun c w ρ2 H2 R2 s2 q2 h2 => k c w ρ2 H2 R2 (s1.trans s2) q2 h2
  | true => exact k r v ρ1 H1 R1 s1 q1 h1
theorem simNotV {t : TE} {f : T3E} (h : SimE K t f) : SimE K (tNotT K t) (eNot f) := by
  intro F U ρ σ H Q3 Q2 e R q k
  subst e
  refine h F U ρ σ H _ _ rfl R q fun r v ρ1 H1 R1 s1 q1 h1 => ?_
  obtain ⟨d, e1, h1⟩ := wd_out h1
  obtain ⟨b, t1, h1⟩ := wtru_out R1 q1 e1 h1
  exact ⟨b, t1, k (.val (.bl (!b))) _ ρ1 H1 R1 s1 (show Rp _ _ _ _ _ from rp_bl) h1⟩
def eIf (f : T3T) (g h : T3E) : T3E := fun ρ Q => f ρ fun b ρ1 => if b = true then g ρ1 Q else h ρ1 Q
theorem simIf {t : TT} {u w : TE} {f : T3T} {g g' : T3E} (h : SimT K t f) (h1 : SimE K u g) (h2 : SimE K w g') : SimE K (tIf t u w) (eIf f g g') := by
  intro F U ρ σ H Q3 Q2 e R q k
  refine h F U ρ σ H _ _ e R q fun b ρ1 H1 R1 s1 q1 => ?_
  cases b with
  | true => exact h1 F U ρ1 σ H1 _ _ e R1 q1 fun c w ρ2 H2 R2 s2 q2 h2 => k c w ρ2 H2 R2 (s1.trans s2) q2 h2
  | false => exact h2 F U ρ1 σ H1 _ _ e R1 q1 fun c w ρ2 H2 R2 s2 q2 h2 => k c w ρ2 H2 R2 (s1.trans s2) q2 h2
/-- a < b < c -/
def eChain (r3 r3' : Rs → Rs → En → (Rs → En → Prop) → Prop) (fa fb fc : T3E) : T3E := fun ρ Q => fa ρ fun x ρ1 => fb ρ1 fun y ρ2 => r3 x y ρ2 fun z ρ3 => wb z ρ3 fun b => if b = true then fc ρ3 fun w ρ4 => r3' y w ρ4 Q else Q (.val (.bl false)) ρ3
theorem simChain {r r' : R2} {r3 r3' : Rs → Rs → En → (Rs → En → Prop) → Prop} {ta tb tc : TE} {fa fb fc : T3E} (h : SimR2 K r r3) (h' : SimR2 K r' r3') (ha : SimE K ta fa) (hb : SimE K tb fb) (hc : SimE K tc fc) :
    SimE K (tChain r r' ta tb tc) (eChain r3 r3' fa fb fc) := by
  intro F U ρ σ H Q3 Q2 e R q k
  refine ha F U ρ σ H _ _ e R q fun x v ρ1 H1 R1 s1 q1 h1 => ?_
  refine hb F U ρ1 σ H1 _ _ e R1 h1 fun y u ρ2 H2 R2 s2 q2 h2 => ?_
  refine h F U ρ2 σ H2 v u x y _ _ e R2 (q1.pres (s2.pres R1)) q2 h2 fun z w ρ3 H3 R3 s3 q3 h3 => ?_
  obtain ⟨b, e3, h3⟩ := wb_out h3
  refine ⟨b, q3.bl R3 e3, ?_⟩
  cases b with
  | false => exact k (.val (.bl false)) _ ρ3 H3 R3 ((s1.trans s2).trans s3) (show Rp _ _ _ _ _ from rp_bl) h3
  | true =>
    refine hc F U ρ3 σ H3 _ _ e R3 h3 fun w t ρ4 H4 R4 s4 q4 h4 => ?_
    exact h' F U ρ4 σ H4 u t y w _ _ e R4 ((q2.pres (s3.pres R2)).pres (s4.pres R3)) q4 h4 fun z t ρ5 H5 R5 s5 q5 h5 => k z t ρ5 H5 R5 ((((s1.trans s2).trans s3).trans s4).trans s5) q5 h5

/-! ### subscripts, slices -/
def wo {α : Type} (o : Option α) (k : α → Prop) : Prop := match o with
  | some x => k x
  | none => False
theorem wo_out {α : Type} {o : Option α} {k : α → Prop} (h : wo o k) : ∃ x, o = some x ∧ k x := by
  cases o with
  | none => exact h.elim
  | some x => exact ⟨x, rfl, h⟩
def oIdx (x y : Rs) (ρ : En) (Q : Rs → En → Prop) : Prop := wd x ρ fun dx => wd y ρ fun dy => match dx, dy with
  | .lst ds, .int i => wo (atI ds i) fun d => Q (.val d) ρ
  | .tup ds, .int i => wo (atI ds i) fun d => Q (.val d) ρ
  | .str z, .int i => z.length ≤ sizeLine ∧ wo (atI z.cps.toList i) fun c => Q (.val (.str ⟨#[c]⟩)) ρ
  | _, _ => False
theorem simIdx : SimR2 K (rIx K) oIdx := by
  intro F U ρ σ H x y rx ry Q3 Q2 e R h1 h2 h k
  obtain ⟨dx, e1, h⟩ := wd_out h
  obtain ⟨dy, e2, h⟩ := wd_out h
  subst e
  cases dx <;> cases dy
  all_goals first | exact h.elim | skip
  · obtain ⟨hz, h⟩ := h
    obtain ⟨c, ec, h⟩ := wo_out h
    exact .inr (.inr ⟨_, _, c, h1.str R e1, h2.int R e2, hz, ec, k (.val (.str _)) _ _ _ R (.refl R) (show Rp _ _ _ _ _ from rp_str) h⟩)
  · obtain ⟨d, ed, h⟩ := wo_out h
    obtain ⟨a, vs, rfl, q1, q2, _⟩ := h1.tup R e1
    obtain ⟨v, ev, q3⟩ := q2.atI ed
    exact .inr (.inl ⟨a, vs, _, v, rfl, h2.int R e2, q1, ev, k (.val d) _ _ _ R (.refl R) (show Rp _ _ _ _ _ from q3) h⟩)
  · obtain ⟨d, ed, h⟩ := wo_out h
    obtain ⟨a, vs, rfl, q1, q2⟩ := h1.lst R e1
    obtain ⟨v, ev, q3⟩ := q2.atI ed
    exact .inl ⟨a, vs, _, v, rfl, h2.int R e2, q1, ev, k (.val d) _ _ _ R (.refl R) (show Rp _ _ _ _ _ from q3) h⟩
abbrev T3O := En → (Option Int → En → Prop) → Prop
def SimO (K : PySem.W.Frag) (t2 : TO) (t3 : T3O) : Prop :=
  ∀ (F : Fr) (U : US) (ρ : En) (σ : St) (H : Hp) (Q3 : Option Int → En → Prop) (Q2 : Option Int → Hp → Prop), F.K = K → Rel F U ρ σ H → t3 ρ Q3 →
    (∀ o ρ' H', Rel F U ρ' σ H' → Stp ρ σ H ρ' H' → Q3 o ρ' → Q2 o H') → t2 σ H Q2
def pNo : T3O := fun ρ Q => Q none ρ
def pSo (f : T3E) : T3O := fun ρ Q => f ρ fun r ρ1 => wd r ρ1 fun d => match d with
  | .int i => Q (some i) ρ1
  | _ => False
theorem simNo : SimO K tNoPart pNo := fun F U ρ σ H Q3 Q2 e R q k => k none ρ H R (.refl R) q
theorem simSo {t : TE} {f : T3E} (h : SimE K t f) : SimO K (tPart t) (pSo f) := by
  intro F U ρ σ H Q3 Q2 e R q k
  refine h F U ρ σ H _ _ e R q fun r v ρ1 H1 R1 s1 q1 h1 => ?_
  obtain ⟨d, e1, h1⟩ := wd_out h1
  cases d <;> first | exact h1.elim | exact ⟨_, q1.int R1 e1, k (some _) ρ1 H1 R1 s1 h1⟩
def cutL {α : Type} (xs : List α) (lo hi : Option Int) : List α := (xs.drop (HT.sIx xs.length 0 lo)).take (HT.sIx xs.length xs.length hi - HT.sIx xs.length 0 lo)
theorem RpAll.cut {ds : List D} {vs : List V} (h : RpAll K H U ds vs) (lo hi : Option Int) : RpAll K H U (cutL ds lo hi) (cutV vs lo hi) := by
  unfold cutL cutV
  rw [h.len]
  exact (h.drop _).take _
def r2Sl (K : PySem.W.Frag) : V → Option Int → Option Int → Hp → VK → Prop := fun x lo hi H Q => rSlL K x lo hi H Q ∨ (rSlF K x lo hi H Q ∨ rSlS x lo hi H Q)
theorem sl_P {X : Cx} : SlR X (r2Sl X.K) := sl_list.or (sl_tupF.or sl_str)
def eSl (f : T3E) (l h : T3O) : T3E := fun ρ Q => f ρ fun r ρ1 => l ρ1 fun lo ρ2 => h ρ2 fun hi ρ3 => wd r ρ3 fun d => match d with
  | .lst ds => Q (.val (.lst (cutL ds lo hi))) ρ3
  | .tup ds => Q (.val (.tup (cutL ds lo hi))) ρ3
  | .str z => z.length ≤ sizeLine ∧ Q (.val (.str (cutS z lo hi))) ρ3
  | _ => False
theorem simSl {t : TE} {l h : TO} {f : T3E} {l3 h3 : T3O} (ht : SimE K t f) (hl : SimO K l l3) (hh : SimO K h h3) : SimE K (tSl (r2Sl K) t l h) (eSl f l3 h3) := by
  intro F U ρ σ H Q3 Q2 e R q k
  refine ht F U ρ σ H _ _ e R q fun r v ρ1 H1 R1 s1 q1 h1 => ?_
  refine hl F U ρ1 σ H1 _ _ e R1 h1 fun lo ρ2 H2 R2 s2 h2 => ?_
  refine hh F U ρ2 σ H2 _ _ e R2 h2 fun hi ρ3 H3 R3 s3 h3 => ?_
  have q3 := (q1.pres (s2.pres R1)).pres (s3.pres R2)
  have s := (s1.trans s2).trans s3
  obtain ⟨d, e1, h3⟩ := wd_out h3
  subst e
  cases d <;> first | exact h3.elim | skip
  · exact .inr (.inr ⟨_, q3.str R3 e1, h3.1, k (.val (.str _)) _ ρ3 H3 R3 s (show Rp _ _ _ _ _ from rp_str) h3.2⟩)
  · rename_i ds
    obtain ⟨a, vs, rfl, z1, z2, z3⟩ := q3.tup R3 e1
    refine .inr (.inl ⟨a, vs, rfl, z1, fun w => ?_, fun w p ob hp hob => ?_⟩)
    · have e : cutL ds lo hi = ds := by
        unfold cutL
        rw [z2.len] at w
        rw [w.1, w.2]
        simp
      have h3 : Q3 (.val (.tup (cutL ds lo hi))) ρ3 := h3
      rw [e] at h3
      exact k (.val (.tup ds)) _ ρ3 H3 R3 s (show Rp _ _ _ _ _ from z3) h3
    · exact k (.val (.tup _)) _ ρ3 _ (R3.ext (ext_new hp)) (s.trans (.ext (ext_new hp))) (rp_newT R3 hob hp (z2.cut lo hi)) h3
  · obtain ⟨a, vs, rfl, z1, z2⟩ := q3.lst R3 e1
    exact .inl ⟨a, vs, rfl, z1, fun p hp => k (.val (.lst _)) _ ρ3 _ (R3.ext (ext_new hp)) (s.trans (.ext (ext_new hp))) (rp_newL R3 hp (z2.cut lo hi)) h3⟩

/-! ### arguments, displays -/
def aNil : T3A := fun ρ Q => Q [] ρ
def aCons (f : T3E) (g : T3A) : T3A := fun ρ Q => f ρ fun r ρ1 => g ρ1 fun rs ρ2 => Q (r :: rs) ρ2
theorem simNil : SimA K tNil aNil := fun F U ρ σ H Q3 Q2 e R q k => k [] [] ρ H R (.refl R) .nil q
theorem simCons {t : TE} {u : TA} {f : T3E} {g : T3A} (h : SimE K t f) (h' : SimA K u g) : SimA K (tCons t u) (aCons f g) := by
  intro F U ρ σ H Q3 Q2 e R q k
  refine h F U ρ σ H _ _ e R q fun r v ρ1 H1 R1 s1 q1 h1 => ?_
  exact h' F U ρ1 σ H1 _ _ e R1 h1 fun rs vs ρ2 H2 R2 s2 q2 h2 => k (r :: rs) (v :: vs) ρ2 H2 R2 (s1.trans s2) (.cons (q1.pres (s2.pres R1)) q2) h2
/-- all are shared values -/
def allV : List Rs → (List D → Prop) → Prop
  | [], k => k []
  | .val d :: rs, k => allV rs fun ds => k (d :: ds)
  | .sl _ :: _, _ => False
  | .bx _ _ _ :: _, _ => False
theorem allV_out : ∀ {rs : List Rs} {vs : List V} {k : List D → Prop}, RVs F U σ H rs vs → allV rs k → ∃ ds, RpAll F.K H U ds vs ∧ ds.length = rs.length ∧ k ds
  | [], _, _, .nil, h => ⟨[], by simp [RpAll], rfl, h⟩
  | .val d :: rs, _, _, .cons q qs, h => by
    obtain ⟨ds, h1, h2, h3⟩ := allV_out qs h
    exact ⟨d :: ds, by simp only [RpAll]; exact ⟨_, _, rfl, q, h1⟩, by rw [List.length_cons, List.length_cons, h2], h3⟩
  | .sl _ :: _, _, _, _, h => h.elim
  | .bx _ _ _ :: _, _, _, _, h => h.elim
def eTup (g : T3A) : T3E := fun ρ Q => g ρ fun rs ρ1 => allV rs fun ds => ds.length ≤ sizeLine ∧ Q (.val (.tup ds)) ρ1
def eLst (g : T3A) : T3E := fun ρ Q => g ρ fun rs ρ1 => allV rs fun ds => ds.length ≤ sizeLine ∧ Q (.val (.lst ds)) ρ1
theorem simTup {u : TA} {g : T3A} (h : SimA K u g) : SimE K (tTupF u) (eTup g) := by
  intro F U ρ σ H Q3 Q2 e R q k
  refine h F U ρ σ H _ _ e R q fun rs vs ρ1 H1 R1 s1 q1 h1 => ?_
  obtain ⟨ds, z1, z2, z3, z4⟩ := allV_out q1 h1
  exact ⟨by rw [z1.len]; exact z3, fun p ob hp hob => k (.val (.tup ds)) _ ρ1 _ (R1.ext (ext_new hp)) (s1.trans (.ext (ext_new hp))) (rp_newT R1 hob hp z1) z4⟩
theorem simLst {u : TA} {g : T3A} (h : SimA K u g) : SimE K (tLst u) (eLst g) := by
  intro F U ρ σ H Q3 Q2 e R q k
  refine h F U ρ σ H _ _ e R q fun rs vs ρ1 H1 R1 s1 q1 h1 => ?_
  obtain ⟨ds, z1, z2, z3, z4⟩ := allV_out q1 h1
  exact ⟨by rw [z1.len]; exact z3, fun p hp => k (.val (.lst ds)) _ ρ1 _ (R1.ext (ext_new hp)) (s1.trans (.ext (ext_new hp))) (rp_newL R1 hp z1) z4⟩

/-! ### calls of built-ins -/
def eCB (r3 : List Rs → En → (Rs → En → Prop) → Prop) (g : T3A) : T3E := fun ρ Q => g ρ fun rs ρ1 => r3 rs ρ1 Q
theorem simCB {r2 : List V → Hp → VK → Prop} {r3 : List Rs → En → (Rs → En → Prop) → Prop} {u : TA} {g : T3A} (hr : SimCR K r2 r3) (h : SimA K u g) : SimE K (tCB r2 u) (eCB r3 g) := by
  intro F U ρ σ H Q3 Q2 e R q k
  refine h F U ρ σ H _ _ e R q fun rs vs ρ1 H1 R1 s1 q1 h1 => ?_
  exact hr F U ρ1 σ H1 vs rs _ _ e R1 q1 h1 fun r v ρ2 H2 R2 s2 q2 h2 => k r v ρ2 H2 R2 (s1.trans s2) q2 h2
def w1 (rs : List Rs) (ρ : En) (k : D → Prop) : Prop := match rs with
  | [x] => wd x ρ k
  | _ => False
theorem w1_out {rs : List Rs} {vs : List V} {k : D → Prop} (q : RVs F U σ H rs vs) (h : w1 rs ρ k) : ∃ x v d, rs = [x] ∧ vs = [v] ∧ RV F U σ H x v ∧ x.dat ρ = some d ∧ k d := by
  cases q with
  | nil => exact h.elim
  | cons q qs =>
    cases qs with
    | nil =>
      obtain ⟨d, e, h⟩ := wd_out h
      exact ⟨_, _, d, rfl, rfl, q, e, h⟩
    | cons _ _ => exact h.elim
def cLen (rs : List Rs) (ρ : En) (Q : Rs → En → Prop) : Prop := w1 rs ρ fun d => match d with
  | .lst ds => Q (.val (.int ds.length)) ρ
  | .tup ds => Q (.val (.int ds.length)) ρ
  | .str z => z.length ≤ sizeLine ∧ Q (.val (.int z.length)) ρ
  | _ => False
theorem simLen : SimCR K (fun xs H Q => ∃ x n, xs = [x] ∧ LenV K x H n ∧ Q (.int n) H) cLen := by
  intro F U ρ σ H vs rs Q3 Q2 e R q h k
  obtain ⟨x, v, d, rfl, rfl, q1, e1, h⟩ := w1_out q h
  subst e
  cases d <;> first | exact h.elim | skip
  · rw [q1.str R e1]
    exact ⟨_, _, rfl, ⟨h.1, rfl⟩, k (.val (.int _)) _ _ _ R (.refl R) (show Rp _ _ _ _ _ from rp_int) h.2⟩
  · obtain ⟨a, vs, rfl, z1, z2, _⟩ := q1.tup R e1
    exact ⟨_, vs.length, rfl, .inr ⟨vs, z1, rfl⟩, by rw [z2.len]; exact k (.val (.int _)) _ _ _ R (.refl R) (show Rp _ _ _ _ _ from rp_int) h⟩
  · obtain ⟨a, vs, rfl, z1, z2⟩ := q1.lst R e1
    exact ⟨_, vs.length, rfl, .inl ⟨vs, z1, rfl⟩, by rw [z2.len]; exact k (.val (.int _)) _ _ _ R (.refl R) (show Rp _ _ _ _ _ from rp_int) h⟩
def cInt (rs : List Rs) (ρ : En) (Q : Rs → En → Prop) : Prop := w1 rs ρ fun d => match d with
  | .int i => Q (.val (.int i)) ρ
  | .bl b => Q (.val (.int (if b then 1 else 0))) ρ
  | _ => False
theorem simInt : SimCR K (fun xs H Q => (∃ i, xs = [.int i] ∧ Q (.int i) H) ∨ ∃ k, xs = [.bl k] ∧ Q (.int (if k then 1 else 0)) H) cInt := by
  intro F U ρ σ H vs rs Q3 Q2 e R q h k
  obtain ⟨x, v, d, rfl, rfl, q1, e1, h⟩ := w1_out q h
  cases d <;> first | exact h.elim | skip
  · exact .inr ⟨_, by rw [q1.bl R e1], k (.val (.int _)) _ _ _ R (.refl R) (show Rp _ _ _ _ _ from rp_int) h⟩
  · exact .inl ⟨_, by rw [q1.int R e1], k (.val (.int _)) _ _ _ R (.refl R) (show Rp _ _ _ _ _ from rp_int) h⟩
def cAbs (rs : List Rs) (ρ : En) (Q : Rs → En → Prop) : Prop := w1 rs ρ fun d => match d with
  | .int i => Q (.val (.int (if i < 0 then -i else i))) ρ
  | _ => False
theorem simAbs : SimCR K (fun xs H Q => ∃ i, xs = [.int i] ∧ Q (.int (if i < 0 then -i else i)) H) cAbs := by
  intro F U ρ σ H vs rs Q3 Q2 e R q h k
  obtain ⟨x, v, d, rfl, rfl, q1, e1, h⟩ := w1_out q h
  cases d <;> first | exact h.elim | skip
  exact ⟨_, by rw [q1.int R e1], k (.val (.int _)) _ _ _ R (.refl R) (show Rp _ _ _ _ _ from rp_int) h⟩
/-- list(x), tuple(x) -/
def cList (rs : List Rs) (ρ : En) (Q : Rs → En → Prop) : Prop := w1 rs ρ fun d => match d with
  | .lst ds => Q (.val (.lst ds)) ρ
  | .tup ds => Q (.val (.lst ds)) ρ
  | _ => False
theorem simList : SimCR K (fun xs H Q => ∃ p ys, xs = [.ref p] ∧ (SqL K H p ys ∨ SqT K H p ys) ∧ ∀ l, H l = none → Q (.ref l) (upd H l (.lst ys))) cList := by
  intro F U ρ σ H vs rs Q3 Q2 e R q h k
  obtain ⟨x, v, d, rfl, rfl, q1, e1, h⟩ := w1_out q h
  subst e
  cases d <;> first | exact h.elim | skip
  · obtain ⟨a, vs, rfl, z1, z2, _⟩ := q1.tup R e1
    exact ⟨a, vs, rfl, .inr z1, fun p hp => k (.val (.lst _)) _ _ _ (R.ext (ext_new hp)) (.ext (ext_new hp)) (rp_newL R hp z2) h⟩
  · obtain ⟨a, vs, rfl, z1, z2⟩ := q1.lst R e1
    exact ⟨a, vs, rfl, .inl z1, fun p hp => k (.val (.lst _)) _ _ _ (R.ext (ext_new hp)) (.ext (ext_new hp)) (rp_newL R hp z2) h⟩
def cTuple (rs : List Rs) (ρ : En) (Q : Rs → En → Prop) : Prop := w1 rs ρ fun d => match d with
  | .lst ds => Q (.val (.tup ds)) ρ
  | .tup ds => Q (.val (.tup ds)) ρ
  | _ => False
theorem simTuple : SimCR K (rTupF K) cTuple := by
  intro F U ρ σ H vs rs Q3 Q2 e R q h k
  obtain ⟨x, v, d, rfl, rfl, q1, e1, h⟩ := w1_out q h
  subst e
  cases d <;> first | exact h.elim | skip
  · obtain ⟨a, vs, rfl, z1, z2, z3⟩ := q1.tup R e1
    exact ⟨a, vs, rfl, .inr ⟨z1, k (.val (.tup _)) _ _ _ R (.refl R) (show Rp _ _ _ _ _ from z3) h⟩⟩
  · obtain ⟨a, vs, rfl, z1, z2⟩ := q1.lst R e1
    exact ⟨a, vs, rfl, .inl ⟨z1, fun p ob hp hob => k (.val (.tup _)) _ _ _ (R.ext (ext_new hp)) (.ext (ext_new hp)) (rp_newT R hob hp z2) h⟩⟩
def D.blsOf : List D → Option (List Bool)
  | [] => some []
  | .bl b :: ds => (D.blsOf ds).map (b :: ·)
  | _ => none
theorem blsOf_out : ∀ {ds : List D} {bs : List Bool}, D.blsOf ds = some bs → ds = bs.map D.bl
  | [], _, h => by simp [D.blsOf] at h; subst h; rfl
  | .bl b :: ds, _, h => by
    cases e : D.blsOf ds with
    | none => simp [D.blsOf, e] at h
    | some bs =>
      simp [D.blsOf, e] at h
      subst h
      rw [blsOf_out e]; rfl
  | .non :: _, _, h => by simp [D.blsOf] at h
  | .int _ :: _, _, h => by simp [D.blsOf] at h
  | .str _ :: _, _, h => by simp [D.blsOf] at h
  | .tup _ :: _, _, h => by simp [D.blsOf] at h
  | .lst _ :: _, _, h => by simp [D.blsOf] at h
  | .dic _ :: _, _, h => by simp [D.blsOf] at h
  | .dit _ :: _, _, h => by simp [D.blsOf] at h
  | .obj _ _ :: _, _, h => by simp [D.blsOf] at h
  | .ty _ :: _, _, h => by simp [D.blsOf] at h
  | .cls _ :: _, _, h => by simp [D.blsOf] at h
  | .scr _ :: _, _, h => by simp [D.blsOf] at h
  | .bx _ _ :: _, _, h => by simp [D.blsOf] at h
  | .din _ _ :: _, _, h => by simp [D.blsOf] at h
  | .exc _ _ _ _ :: _, _, h => by simp [D.blsOf] at h
  | .dik _ :: _, _, h => by simp [D.blsOf] at h
theorem blsOf_map (bs : List Bool) : D.blsOf (bs.map D.bl) = some bs := by
  induction bs with
  | nil => rfl
  | cons b bs ih => simp [D.blsOf, ih]
def cAll (rs : List Rs) (ρ : En) (Q : Rs → En → Prop) : Prop := w1 rs ρ fun d => match d with
  | .lst ds => wo (D.blsOf ds) fun bs => Q (.val (.bl (bs.all id))) ρ
  | _ => False
theorem simAll : SimCR K (rAll K) cAll := by
  intro F U ρ σ H vs rs Q3 Q2 e R q h k
  obtain ⟨x, v, d, rfl, rfl, q1, e1, h⟩ := w1_out q h
  subst e
  cases d <;> first | exact h.elim | skip
  obtain ⟨bs, eb, h⟩ := wo_out h
  obtain ⟨a, vs, rfl, z1, z2⟩ := q1.lst R e1
  rw [blsOf_out eb] at z2
  rw [z2.bls] at z1
  exact ⟨a, bs, rfl, z1, k (.val (.bl _)) _ _ _ R (.refl R) (show Rp _ _ _ _ _ from rp_bl) h⟩
/-- isinstance with a built-in class -/
def D.tyn : D → Option String
  | .non => some "NoneType"
  | .bl _ => some "bool"
  | .int _ => some "int"
  | .str _ => some "str"
  | .tup _ => some "tuple"
  | .lst _ => some "list"
  | .dic _ => some "dict"
  | _ => none
def isiT (t T : String) : Bool := t == T || (t == "bool" && T == "int")
def isiKnown (t T : String) : Bool := (["NoneType", "bool", "int", "str", "tuple", "list", "dict"].contains t) && (["bool", "int", "str", "tuple", "list", "dict"].contains T)
theorem isi_kit {t T : String} (h : isiKnown t T = true) : PySem.W.kitOne K (.type t) (.type T) = some (isiT t T) := by
  simp only [isiKnown, Bool.and_eq_true, List.contains_eq_mem, List.mem_cons, List.not_mem_nil, or_false, decide_eq_true_eq] at h
  obtain ⟨h1, h2⟩ := h
  rcases h1 with rfl | rfl | rfl | rfl | rfl | rfl | rfl <;> rcases h2 with rfl | rfl | rfl | rfl | rfl | rfl <;> exact kit_ty (by decide +kernel)
theorem TyX_of (R : Rel F U ρ σ H) {r : Rs} {v : V} {d : D} {t : String} (h : RV F U σ H r v) (e : r.dat ρ = some d) (ht : d.tyn = some t) : TyX F.K H v (.type t) := by
  have rdl : ∀ {a vs}, SqL F.K H a vs → TyX F.K H (.ref a) (.type "list") := fun {a vs} z => by
    rcases z with (z | ⟨o, z⟩) | ⟨o, its, n, z, c, _⟩
    · exact .base (.lst z)
    · exact .base (.frz z)
    · exact .kList z c
  cases d <;> simp only [D.tyn, Option.some.injEq, reduceCtorEq] at ht
  all_goals subst ht
  · rw [h.non R e]; exact .base .non
  · rw [h.bl R e]; exact .base (.bl _)
  · rw [h.int R e]; exact .base (.int _)
  · rw [h.str R e]; exact .base (.str _)
  · obtain ⟨a, vs, rfl, z, _⟩ := h.tup R e
    rcases z with (z | ⟨o, z⟩) | ⟨o, its, n, z, c, _⟩
    · exact .base (.tup z)
    · exact .fTuple z
    · exact .kTuple z c
  · obtain ⟨a, vs, rfl, z, _⟩ := h.lst R e
    exact rdl z
  · rcases h.get R e with q | ⟨a, rfl, vs, z, _⟩
    · simp only [Rp] at q
      obtain ⟨a, vs, rfl, z, _⟩ := q
      rcases z with z | ⟨o, z⟩
      · exact .base (.dK z)
      · exact .fDict z
    · rcases z with z | ⟨o, z⟩
      · exact .base (.dK z)
      · exact .fDict z
def cIsi (rs : List Rs) (ρ : En) (Q : Rs → En → Prop) : Prop := match rs with
  | [x, .val (.ty T)] => wd x ρ fun d => wo d.tyn fun t => isiKnown t T = true ∧ Q (.val (.bl (isiT t T))) ρ
  | _ => False
theorem simIsi : SimCR K (rIsi K) cIsi := by
  intro F U ρ σ H vs rs Q3 Q2 e R q h k
  subst e
  unfold cIsi at h
  split at h
  · rename_i x T
    cases q with
    | cons q1 qs =>
      cases qs with
      | cons q2 qs =>
        cases qs
        obtain ⟨d, e1, h⟩ := wd_out h
        obtain ⟨t, e2, h⟩ := wo_out h
        have q2 : Rp F.K H U (.ty T) _ := q2
        simp only [Rp] at q2
        subst q2
        exact ⟨_, _, .type t, .type T, isiT t T, rfl, .ty T, TyX_of R q1 e1 e2, isi_kit h.1, k (.val (.bl _)) _ _ _ R (.refl R) (show Rp _ _ _ _ _ from rp_bl) h.2⟩
  · exact h.elim
end
end L3

set_option Elab.async false
set_option linter.all false
set_option maxRecDepth 100000
namespace L3
open PySem L2
open PyProof.Rows (b2i)

def Fr.at (F : Fr) (U : US) (ρ : En) (σ : St) (H : Hp) : Fr := ⟨F.K, H, U, Own ρ σ, σ, fun i l => ∃ s : Sl, ρ[i]? = some s ∧ s.lk = some l⟩
section
variable {F : Fr} {U U2 : US} {ρ ρ' ρ2 : En} {σ σ2 : St} {H H' H2 : Hp} {K : PySem.W.Frag}
theorem Rel.b0' (R : Rel F U ρ σ H) {j : Nat} {d : D} (h : ∃ s : Sl, ρ[j]? = some s ∧ s.lk = some (some d)) : (∃ v, σ[j]? = some (some v) ∧ Rp F.K H U d v) ∨ (∃ (a : Addr), σ[j]? = some (some (.ref a)) ∧ ∀ x, d.reg a x → ∃ o, H x = some o) := by
  obtain ⟨s, h1, h2⟩ := h
  have hj : j < σ.length := by rw [← R.len]; exact (List.getElem?_eq_some_iff.mp h1).1
  have hσ : σ[j]? = some σ[j] := List.getElem?_eq_getElem hj
  cases s <;> first | cases h2 | skip
  rcases R.bor j d _ h1 hσ with ⟨v, e, r⟩ | ⟨a, e, t, _⟩
  · exact .inl ⟨v, by rw [hσ, e], r⟩
  · exact .inr ⟨a, by rw [hσ, e], t.some⟩
theorem Rel.start (R : Rel F U ρ σ H) : Rel (F.at U ρ σ H) U ρ σ H :=
  ⟨R.len, R.slot, R.bor, R.inj, R.tr, fun _ _ h _ => h, fun _ o h => ⟨o, h⟩, fun _ _ _ n => n, fun _ h _ => h, fun _ h => .inl h, fun i s l h q => ⟨⟨s, h, q⟩, rfl⟩, fun _ h => R.ownU h, fun j d h => R.b0' h, R.tr⟩
theorem Rel.unbase (R : Rel F U ρ σ H) (R2 : Rel (F.at U ρ σ H) U2 ρ2 σ2 H2) : Rel F U2 ρ2 σ2 H2 := by
  refine ⟨R2.len, R2.slot, R2.bor, R2.inj, R2.tr, fun a o h n => ?_, fun a o h => ?_, fun a o h n => ?_, fun a h n => R2.up a (R.up a h n) fun w => n (R.own0 w h), fun a h => ?_, fun i s l h q => ?_, R.wu, R.b0, R.u0⟩
  · refine R2.keep a o (R.keep a o h n) fun w => ?_
    rcases R.new a w with z | z
    · exact n z
    · rw [z] at h; cases h
  · obtain ⟨o', h'⟩ := R.ktr a o h
    exact R2.ktr a o' h'
  · obtain ⟨o', h'⟩ := R.ktr a o h
    exact R2.shar a o' h' (R.shar a o h n)
  · rcases R2.new a h with z | z
    · exact R.new a z
    · refine .inr ?_
      cases e : F.H0 a with
      | none => rfl
      | some o =>
        obtain ⟨o', h'⟩ := R.ktr a o e
        have z : H a = none := z
        rw [z] at h'; cases h'
  · obtain ⟨⟨s', h', l'⟩, e⟩ := R2.lock i s l h q
    obtain ⟨z1, z2⟩ := R.lock i s' l h' l'
    exact ⟨z1, e.trans z2⟩

/-! ### what a loop holds while it walks: a lent slot -/
def lockI (ρ : En) (i : Nat) : En := match ρ[i]? with
  | some (.own d) => ρ.set i (.brw d)
  | some (.par d) => ρ.set i (.brw d)
  | some (.owb d) => ρ.set i (.brw d)
  | some (.pab d) => ρ.set i (.brw d)
  | _ => ρ
def lockE (ρ : En) : Rs → En
  | .val _ => ρ
  | .sl i => lockI ρ i
  | .bx i _ _ => lockI ρ i
def unlockI (ρ0 : En) (i : Nat) (ρ : En) : En := match ρ0[i]? with
  | some (.own d) => ρ.set i (.own d)
  | some (.par d) => ρ.set i (.par d)
  | some (.owb d) => ρ.set i (.owb d)
  | some (.pab d) => ρ.set i (.pab d)
  | _ => ρ
def unlockE (ρ0 : En) (r : Rs) (ρ : En) : En := match r with
  | .val _ => ρ
  | .sl i => unlockI ρ0 i ρ
  | .bx i _ _ => unlockI ρ0 i ρ
def isB (ρ : En) (i : Nat) : Prop := match ρ[i]? with
  | some (.brw _) => True
  | _ => False
def okI (ρ0 : En) (i : Nat) (ρ : En) : Prop := match ρ0[i]? with
  | some s => match s.isW with
    | true => isB ρ i
    | false => True
  | none => True
def okL (ρ0 : En) (r : Rs) (ρ : En) : Prop := match r with
  | .val _ => True
  | .sl i => okI ρ0 i ρ
  | .bx i _ _ => okI ρ0 i ρ
theorem reg_dat {s : Sl} {d : D} {a x : Addr} (w : s.isW = true) (hd : s.dat = some d) (h : s.reg (some (.ref a)) x) : d.reg a x := by
  rcases h.2 with h | h
  · cases h; exact .inl rfl
  · cases s <;> first | (cases h; done) | (cases hd; exact .inr h)
theorem topR_of {K : PySem.W.Frag} {s : Sl} {d : D} {a : Addr} (w : s.isW = true) (hd : s.dat = some d) (q : SlotOk K H U s (some (.ref a))) : TopR K H U d a := by
  cases s with
  | own d' => cases hd; obtain ⟨b, e, _, t⟩ := q; cases e; exact t.r
  | par d' => cases hd; obtain ⟨b, e, _, t⟩ := q; cases e; exact t.r
  | owb d' => cases hd; obtain ⟨b, e, _, t⟩ := q; cases e; exact t.r
  | pab d' => cases hd; obtain ⟨b, e, _, t⟩ := q; cases e; exact t.r
  | _ => cases w
theorem dat_reg {K : PySem.W.Frag} {s : Sl} {d : D} {a x : Addr} (w : s.isW = true) (hd : s.dat = some d) (q : SlotOk K H U s (some (.ref a))) (h : d.reg a x) : s.reg (some (.ref a)) x := by
  refine ⟨w, ?_⟩
  rcases h with e | h
  · exact .inl (by rw [e])
  · cases s with
    | own d' => cases hd; obtain ⟨b, e, _, t⟩ := q; rw [t.nob] at h; cases h
    | par d' => cases hd; obtain ⟨b, e, _, t⟩ := q; rw [t.nob] at h; cases h
    | owb d' => cases hd; exact .inr h
    | pab d' => cases hd; exact .inr h
    | _ => cases w
theorem startB (R : Rel F U ρ σ H) {i : Nat} {s : Sl} {d : D} {a : Addr} (h1 : ρ[i]? = some s) (h2 : s.isW = true) (hd : s.dat = some d) (h3 : σ[i]? = some (some (.ref a))) :
    Rel (F.at U (ρ.set i (.brw d)) σ H) U (ρ.set i (.brw d)) σ H := by
  have q := R.slot i s _ h1 h3
  have t := topR_of h2 hd q
  have own' : ∀ x, Own (ρ.set i (.brw d)) σ x → Own ρ σ x ∧ ¬ s.reg (some (.ref a)) x := fun x ⟨j, t, o, q1, q2, q3⟩ => by
    rcases set_get q1 with ⟨e, rfl, _⟩ | ⟨ne, q1⟩
    · exact absurd q3 (reg_noW rfl)
    · exact ⟨⟨j, t, o, q1, q2, q3⟩, fun e => ne (R.inj i j s _ _ _ x h1 q1 h3 q2 e q3)⟩
  refine ⟨by rw [List.length_set]; exact R.len, fun j t o q1 q2 => ?_, fun j e o q1 q2 => ?_, fun j k t u o o2 b q1 q2 q3 q4 q5 q6 => ?_, R.tr, fun _ _ h _ => h, fun _ o h => ⟨o, h⟩, fun _ _ _ n => n, fun _ h _ => h, fun _ h => .inl h, fun i s l h q => ⟨⟨s, h, q⟩, rfl⟩, fun x h => R.ownU (own' x h).1, fun j e h => ?_, R.tr⟩
  · rcases set_get q1 with ⟨e, rfl, _⟩ | ⟨ne, q1⟩
    · trivial
    · exact R.slot j t o q1 q2
  · rcases set_get q1 with ⟨e1, e2, _⟩ | ⟨ne, q1⟩
    · cases e2
      subst e1
      rw [h3] at q2; cases q2
      exact .inr ⟨a, rfl, t, fun x hx z => (own' x z).2 (dat_reg h2 hd q hx)⟩
    · rcases R.bor j e o q1 q2 with z | ⟨b, e1, q, n⟩
      · exact .inl z
      · exact .inr ⟨b, e1, q, fun x hx z => n x hx (own' x z).1⟩
  · rcases set_get q1 with ⟨e, rfl, _⟩ | ⟨ne, q1⟩
    · exact absurd q5 (reg_noW rfl)
    · rcases set_get q2 with ⟨e, rfl, _⟩ | ⟨ne2, q2⟩
      · exact absurd q6 (reg_noW rfl)
      · exact R.inj j k t u o o2 b q1 q2 q3 q4 q5 q6
  · obtain ⟨sj, q1, q2⟩ := h
    rcases set_get q1 with ⟨e1, e2, _⟩ | ⟨ne, q1⟩
    · subst e1; subst e2; cases q2
      exact .inr ⟨a, h3, t.some⟩
    · exact R.b0' ⟨sj, q1, q2⟩
theorem unB (R : Rel F U ρ σ H) {i : Nat} {s : Sl} {d : D} {a : Addr} (h1 : ρ[i]? = some s) (h2 : s.isW = true) (hd : s.dat = some d) (h3 : σ[i]? = some (some (.ref a)))
    (R2 : Rel (F.at U (ρ.set i (.brw d)) σ H) U2 ρ2 σ2 H2) {d' : D} (h4 : ρ2[i]? = some (.brw d')) : Rel F U2 (ρ2.set i s) σ2 H2 := by
  have hi : i < ρ2.length := (List.getElem?_eq_some_iff.mp h4).1
  have q := R.slot i s _ h1 h3
  have nW : ∀ x, s.reg (some (.ref a)) x → ¬ Own (ρ.set i (.brw d)) σ x := fun x hx ⟨j, t, o, q1, q2, q3⟩ => by
    rcases set_get q1 with ⟨e, rfl, _⟩ | ⟨ne, q1⟩
    · exact absurd q3 (reg_noW rfl)
    · exact ne (R.inj i j s _ _ _ x h1 q1 h3 q2 hx q3)
  have hu : ∀ x, s.reg (some (.ref a)) x → U x := fun x hx => q.regU hx
  obtain ⟨⟨s', hs', ls'⟩, el⟩ := R2.lock i _ _ h4 rfl
  have e3 : σ2[i]? = some (some (.ref a)) := el.trans h3
  have kp : ∀ x, s.reg (some (.ref a)) x → ∀ o, H x = some o → H2 x = some o := fun x hx o h => R2.keep x o h (nW x hx)
  have nO : ∀ x, s.reg (some (.ref a)) x → ¬ Own ρ2 σ2 x := fun x hx z => by
    rcases R2.new x z with w | w
    · exact nW x hx w
    · obtain ⟨o, h⟩ := R.tr x (hu x hx)
      have w : H x = none := w
      rw [w] at h; cases h
  have own' : ∀ x, Own (ρ2.set i s) σ2 x → Own ρ2 σ2 x ∨ s.reg (some (.ref a)) x := fun x ⟨j, t, o, q1, q2, q3⟩ => by
    rcases set_get q1 with ⟨e, rfl, _⟩ | ⟨ne, q1⟩
    · subst e; rw [e3] at q2; cases q2; exact .inr q3
    · exact .inl ⟨j, t, o, q1, q2, q3⟩
  have oldOwn : ∀ {x j t o}, i ≠ j → ρ[j]? = some t → σ[j]? = some o → t.reg o x → Own ρ σ x := fun {x j t o} _ q1 q2 q3 => ⟨j, t, o, q1, q2, q3⟩
  have wOwn : ∀ x, Own (ρ.set i (.brw d)) σ x → Own ρ σ x := fun x ⟨j, t, o, q1, q2, q3⟩ => by
    rcases set_get q1 with ⟨e, rfl, _⟩ | ⟨ne, q1⟩
    · exact absurd q3 (reg_noW rfl)
    · exact ⟨j, t, o, q1, q2, q3⟩
  have oN : ∀ x, Own ρ2 σ2 x → F.W0 x ∨ F.H0 x = none := fun x z => by
    rcases R2.new x z with w | w
    · exact R.new x (wOwn x w)
    · refine .inr ?_
      cases e : F.H0 x with
      | none => rfl
      | some o =>
        obtain ⟨o', h'⟩ := R.ktr x o e
        have w : H x = none := w
        rw [w] at h'; cases h'
  refine ⟨by rw [List.length_set]; exact R2.len, fun j t o q1 q2 => ?_, fun j e o q1 q2 => ?_, fun j k t u o o2 b q1 q2 q3 q4 q5 q6 => ?_, R2.tr, fun b o h n => ?_, fun b o h => ?_, fun b o h n => ?_, fun b h n => R2.up b (R.up b h n) fun w => n (R.own0 (wOwn b w) h), fun x q => ?_, fun j t l q1 q2 => ?_, R.wu, R.b0, R.u0⟩
  · rcases set_get q1 with ⟨e, e2, _⟩ | ⟨ne, q1⟩
    · subst e; subst e2
      rw [e3] at q2; cases q2
      exact q.pres R2.pres0 fun x hx u => ⟨R2.up x u (nW x hx), kp x hx⟩
    · exact R2.slot j t o q1 q2
  · rcases set_get q1 with ⟨e1, e2, _⟩ | ⟨ne, q1⟩
    · rw [← e2] at h2; cases h2
    · rcases R2.bor j e o q1 q2 with z | ⟨b, e1, q', n⟩
      · exact .inl z
      · by_cases eb : ∃ x, e.reg b x ∧ s.reg (some (.ref a)) x
        · subst e1
          obtain ⟨⟨sj, hsj, lsj⟩, ej⟩ := R2.lock j _ _ q1 rfl
          have ej : σ2[j]? = σ[j]? := ej
          rw [List.getElem?_set_ne ne] at hsj
          have q2' : σ[j]? = some (some (.ref b)) := ej.symm.trans q2
          cases sj with
          | brw dj =>
            cases lsj
            rcases R.bor j e _ hsj q2' with ⟨v, ev, rv⟩ | ⟨c, ec, _, nc⟩
            · cases ev
              exact .inl ⟨_, rfl, Rp.pres R2.pres0 e _ rv⟩
            · cases ec
              obtain ⟨x, hx1, hx2⟩ := eb
              exact absurd ⟨i, s, _, h1, h3, hx2⟩ (nc x hx1)
          | _ => cases lsj
        · exact .inr ⟨b, e1, q', fun x hx z => (own' x z).elim (n x hx) fun w => eb ⟨x, hx, w⟩⟩
  · rcases set_get q1 with ⟨e, e2, _⟩ | ⟨ne, q1'⟩
    · rcases set_get q2 with ⟨e', e2', _⟩ | ⟨ne2, q2'⟩
      · omega
      · subst e
        rw [e3] at q3; cases q3
        subst e2
        exact absurd ⟨k, u, o2, q2', q4, q6⟩ (nO b q5)
    · rcases set_get q2 with ⟨e', e2', _⟩ | ⟨ne2, q2'⟩
      · subst e'
        rw [e3] at q4; cases q4
        subst e2'
        exact absurd ⟨j, t, o, q1', q3, q5⟩ (nO b q6)
      · exact R2.inj j k t u o o2 b q1' q2' q3 q4 q5 q6
  · exact R2.keep b o (R.keep b o h n) fun w => by
      rcases R.new b (wOwn b w) with z | z
      · exact n z
      · rw [z] at h; cases h
  · obtain ⟨o', h'⟩ := R.ktr b o h
    exact R2.ktr b o' h'
  · obtain ⟨o', h'⟩ := R.ktr b o h
    exact R2.shar b o' h' (R.shar b o h n)
  · rcases own' x q with z | z
    · exact oN x z
    · exact R.new x ⟨i, s, _, h1, h3, z⟩
  · rcases set_get q1 with ⟨e, e2, _⟩ | ⟨ne, q1⟩
    · subst e; subst e2
      obtain ⟨z1, z2⟩ := R.lock i t l h1 q2
      exact ⟨z1, e3.trans (h3.symm.trans z2)⟩
    · obtain ⟨⟨s', h', l'⟩, e⟩ := R2.lock j t l q1 q2
      rw [List.getElem?_set_ne ne] at h'
      obtain ⟨z1, z2⟩ := R.lock j s' l h' l'
      exact ⟨z1, e.trans z2⟩
theorem lockI_w {ρ : En} {i : Nat} {s : Sl} {d : D} (h : ρ[i]? = some s) (w : s.isW = true) (hd : s.dat = some d) : lockI ρ i = ρ.set i (.brw d) := by
  cases s <;> first | (cases w; done) | (cases hd; simp [lockI, h])
theorem lockI_no {ρ : En} {i : Nat} (h : ∀ s, ρ[i]? = some s → s.isW = false) : lockI ρ i = ρ := by
  unfold lockI
  cases e : ρ[i]? with
  | none => simp
  | some s => have := h s e; cases s <;> first | (cases this; done) | simp
theorem unlockI_w {ρ ρ2 : En} {i : Nat} {s : Sl} (h : ρ[i]? = some s) (w : s.isW = true) : unlockI ρ i ρ2 = ρ2.set i s := by
  cases s <;> first | (cases w; done) | simp [unlockI, h]
theorem unlockI_no {ρ ρ2 : En} {i : Nat} (h : ∀ s, ρ[i]? = some s → s.isW = false) : unlockI ρ i ρ2 = ρ2 := by
  unfold unlockI
  cases e : ρ[i]? with
  | none => simp
  | some s => have := h s e; cases s <;> first | (cases this; done) | simp
/-- a slot is written or not -/
theorem Rel.wOr (R : Rel F U ρ σ H) (i : Nat) : (∀ s, ρ[i]? = some s → s.isW = false) ∨ ∃ s d a, ρ[i]? = some s ∧ s.isW = true ∧ s.dat = some d ∧ σ[i]? = some (some (.ref a)) := by
  cases h : ρ[i]? with
  | none => exact .inl fun s e => nomatch e
  | some s =>
    cases w : s.isW with
    | false => exact .inl fun s' e => by cases e; exact w
    | true =>
      have hi : i < σ.length := by rw [← R.len]; exact (List.getElem?_eq_some_iff.mp h).1
      have hσ : σ[i]? = some σ[i] := List.getElem?_eq_getElem hi
      obtain ⟨a, e, _⟩ := (R.slot i s _ h hσ).ref w
      obtain ⟨d, hd⟩ : ∃ d, s.dat = some d := by cases s <;> first | (cases w; done) | exact ⟨_, rfl⟩
      exact .inr ⟨s, d, a, rfl, w, hd, hσ.trans (by rw [e])⟩
theorem loopInI (R : Rel F U ρ σ H) (i : Nat) : Rel (F.at U (lockI ρ i) σ H) U (lockI ρ i) σ H := by
  rcases R.wOr i with h | ⟨s, d, a, h1, w, hd, h3⟩
  · rw [lockI_no h]; exact R.start
  · rw [lockI_w h1 w hd]; exact startB R h1 w hd h3
theorem loopOutI (R : Rel F U ρ σ H) (i : Nat) (R2 : Rel (F.at U (lockI ρ i) σ H) U2 ρ2 σ2 H2) (ok : okI ρ i ρ2) : Rel F U2 (unlockI ρ i ρ2) σ2 H2 := by
  rcases R.wOr i with h | ⟨s, d, a, h1, w, hd, h3⟩
  · rw [lockI_no h] at R2; rw [unlockI_no h]; exact R.unbase R2
  · rw [lockI_w h1 w hd] at R2
    rw [unlockI_w h1 w]
    have ok : isB ρ2 i := by
      unfold okI at ok
      rw [h1] at ok
      have ok : (match s.isW with | true => isB ρ2 i | false => True) := ok
      rwa [w] at ok
    unfold isB at ok
    cases h4 : ρ2[i]? with
    | none => rw [h4] at ok; exact ok.elim
    | some t =>
      rw [h4] at ok
      cases t <;> first | exact ok.elim | exact unB R h1 w hd h3 R2 h4
/-- a loop begins: the frame that it sees -/
theorem loopIn (R : Rel F U ρ σ H) (r : Rs) : Rel (F.at U (lockE ρ r) σ H) U (lockE ρ r) σ H := by
  cases r with
  | val d => exact R.start
  | sl i => exact loopInI R i
  | bx i f b => exact loopInI R i
theorem loopOut (R : Rel F U ρ σ H) (r : Rs) (R2 : Rel (F.at U (lockE ρ r) σ H) U2 ρ2 σ2 H2) (ok : okL ρ r ρ2) : Rel F U2 (unlockE ρ r ρ2) σ2 H2 := by
  cases r with
  | val d => exact R.unbase R2
  | sl i => exact loopOutI R i R2 ok
  | bx i f b => exact loopOutI R i R2 ok
end
end L3

set_option Elab.async false
set_option linter.all false
set_option maxRecDepth 100000
namespace L3
open PySem L2
open PyProof.Rows (b2i)

/-! ### statements -/
structure E3 where
  nx : En → Prop
  rt : D → En → Prop
  ro : D → En → Prop
  bk : En → Prop := fun _ => False
  ct : En → Prop := fun _ => False
abbrev T3S := E3 → En → Prop
structure KS (F : Fr) (D3 : E3) (D2 : Ends) : Prop where
  nx : ∀ U ρ σ H, Rel F U ρ σ H → D3.nx ρ → D2.nx σ H
  bk : ∀ U ρ σ H, Rel F U ρ σ H → D3.bk ρ → D2.bk σ H
  ct : ∀ U ρ σ H, Rel F U ρ σ H → D3.ct ρ → D2.ct σ H
  rt : ∀ U ρ σ H d v, Rel F U ρ σ H → Rp F.K H U d v → D3.rt d ρ → D2.rt v H
  ro : ∀ U ρ σ H d a (i : Nat), Rel F U ρ σ H → ρ[i]? = some (.own d) → σ[i]? = some (some (.ref a)) → D3.ro d ρ → D2.rt (.ref a) H
  rf : ∀ U ρ σ H d a, Rel F U ρ σ H → Fresh F U H d a → D3.ro d ρ → D2.rt (.ref a) H
def SimS (K : PySem.W.Frag) (t2 : TS) (t3 : T3S) : Prop :=
  ∀ (F : Fr) (U : US) (ρ : En) (σ : St) (H : Hp) (D3 : E3) (D2 : Ends), F.K = K → Rel F U ρ σ H → t3 D3 ρ → KS F D3 D2 → t2 D2 σ H
/-- a fresh result -/
def SimEO (K : PySem.W.Frag) (t2 : TE) (t3 : En → (D → En → Prop) → Prop) : Prop :=
  ∀ (F : Fr) (U : US) (ρ : En) (σ : St) (H : Hp) (Q3 : D → En → Prop) (Q2 : VK), F.K = K → Rel F U ρ σ H → t3 ρ Q3 →
    (∀ d a ρ' H', Rel F (fun b => U b ∨ b = a) ρ' σ H' → Stp ρ σ H ρ' H' → H a = none → TopW F.K H' (fun b => U b ∨ b = a) d a → Q3 d ρ' → Q2 (.ref a) H') → t2 σ H Q2

section
variable {F : Fr} {U U2 : US} {ρ ρ' ρ2 : En} {σ σ2 : St} {H H' H2 : Hp} {K : PySem.W.Frag}
def sNext : T3S := fun D ρ => D.nx ρ
def sSeq (f g : T3S) : T3S := fun D ρ => f { D with nx := g D } ρ
theorem simNext : SimS K tNext sNext := fun F U ρ σ H D3 D2 e R q k => k.nx U ρ σ H R q
theorem simSeq {t u : TS} {f g : T3S} (h : SimS K t f) (h' : SimS K u g) : SimS K (tSeq t u) (sSeq f g) := fun F U ρ σ H D3 D2 e R q k =>
  h F U ρ σ H { D3 with nx := g D3 } { D2 with nx := u D2 } e R q ⟨fun U ρ σ H R q => h' F U ρ σ H D3 D2 e R q k, k.bk, k.ct, k.rt, k.ro, k.rf⟩
def sBreak : T3S := fun D ρ => D.bk ρ
def sCont : T3S := fun D ρ => D.ct ρ
theorem simBreak : SimS K tBreak sBreak := fun F U ρ σ H D3 D2 e R q k => k.bk U ρ σ H R q
theorem simCont : SimS K tCont sCont := fun F U ρ σ H D3 D2 e R q k => k.ct U ρ σ H R q
def sNever : T3S := fun _ _ => False
theorem simNever : SimS K tNever sNever := fun F U ρ σ H D3 D2 e R q k => q.elim
def sDrop (f : T3E) : T3S := fun D ρ => f ρ fun _ ρ1 => D.nx ρ1
theorem simDrop {t : TE} {f : T3E} (h : SimE K t f) : SimS K (tDrop t) (sDrop f) := fun F U ρ σ H D3 D2 e R q k =>
  h F U ρ σ H _ _ e R q fun r v ρ1 H1 R1 s1 q1 h1 => k.nx U ρ1 σ H1 R1 h1
def sRet (f : T3E) : T3S := fun D ρ => f ρ fun r ρ1 => match r with
  | .val d => D.rt d ρ1
  | .bx _ _ _ => False
  | .sl i => match ρ1[i]? with
    | some (.own d) => D.ro d ρ1
    | _ => False
theorem simRet {t : TE} {f : T3E} (h : SimE K t f) : SimS K (tRet t) (sRet f) := fun F U ρ σ H D3 D2 e R q k =>
  h F U ρ σ H _ _ e R q fun r v ρ1 H1 R1 s1 q1 h1 => by
    cases r with
    | val d => exact k.rt U ρ1 σ H1 d v R1 q1 h1
    | bx i f b => exact h1.elim
    | sl i =>
      have h1 : (match ρ1[i]? with | some (.own d) => D3.ro d ρ1 | _ => False) := h1
      cases hs : ρ1[i]? with
      | none => rw [hs] at h1; exact h1.elim
      | some s =>
        rw [hs] at h1
        cases s with
        | own d =>
          have q1 : σ[i]? = some (some v) := q1
          obtain ⟨a, ea, _⟩ := R1.slot i _ _ hs q1
          cases ea
          exact k.ro U ρ1 σ H1 d a i R1 hs q1 h1
        | _ => exact h1.elim
def sRetO (f : En → (D → En → Prop) → Prop) : T3S := fun D ρ => f ρ fun d ρ1 => D.ro d ρ1
theorem up_new (R : Rel F U ρ σ H) {a : Addr} (h : H a = none) : F.H0 a = none := by
  cases e : F.H0 a with
  | none => rfl
  | some o =>
    obtain ⟨o', h'⟩ := R.ktr a o e
    rw [h] at h'; cases h'
theorem simRetO {t : TE} {f : En → (D → En → Prop) → Prop} (h : SimEO K t f) : SimS K (tRet t) (sRetO f) := fun F U ρ σ H D3 D2 e R q k =>
  h F U ρ σ H _ _ e R q fun d a ρ1 H1 R1 s1 hn t1 h1 => k.rf _ ρ1 σ H1 d a R1 ⟨t1, .inr rfl, up_new R hn⟩ h1
def sRetN : T3S := fun D ρ => D.rt .non ρ
theorem simRetN : SimS K tRetN sRetN := fun F U ρ σ H D3 D2 e R q k => k.rt U ρ σ H .non .non R rp_non q
def sIf (c : T3T) (f g : T3S) : T3S := fun D ρ => c ρ fun b ρ1 => if b = true then f D ρ1 else g D ρ1
theorem simIfS {c : TT} {t u : TS} {c3 : T3T} {f g : T3S} (hc : SimT K c c3) (h : SimS K t f) (h' : SimS K u g) : SimS K (tIfS c t u) (sIf c3 f g) := fun F U ρ σ H D3 D2 e R q k =>
  hc F U ρ σ H _ _ e R q fun b ρ1 H1 R1 s1 h1 => by
    cases b with
    | true => exact h F U ρ1 σ H1 D3 D2 e R1 h1 k
    | false => exact h' F U ρ1 σ H1 D3 D2 e R1 h1 k

/-! ### targets -/
def RpW (K : PySem.W.Frag) (H : Hp) (U : US) (wk : Bool) (d : D) (x : V) : Prop :=
  Rp K H U d x ∨ (wk = true ∧ ∃ T vs ds, x = .ref T ∧ d = .tup ds ∧ SqT K H T vs ∧ RpAll K H U ds vs)
abbrev T3G := D → En → (En → Prop) → Prop
def SimG (K : PySem.W.Frag) (wk : Bool) (g2 : TG) (g3 : T3G) (ix : List Nat) : Prop :=
  ∀ (F : Fr) (U : US) (ρ : En) (σ : St) (H : Hp) (x : D) (v : V) (Q3 : En → Prop) (Q2 : St → Hp → Prop), F.K = K → Rel F U ρ σ H → RpW F.K H U wk x v → g3 x ρ Q3 →
    (∀ ρ' σ', Rel F U ρ' σ' H → (∀ a, Own ρ' σ' a → Own ρ σ a) → (∀ vs : List Nat, (∀ i ∈ ix, i ∈ vs) → wipe σ' vs = wipe σ vs) → Q3 ρ' → Q2 σ' H) → g2 v σ H Q2
def SimGs (K : PySem.W.Frag) (g2 : TGs) (g3 : List D → En → (En → Prop) → Prop) (ix : List Nat) : Prop :=
  ∀ (F : Fr) (U : US) (ρ : En) (σ : St) (H : Hp) (xs : List D) (vs : List V) (Q3 : En → Prop) (Q2 : St → Hp → Prop), F.K = K → Rel F U ρ σ H → RpAll F.K H U xs vs → g3 xs ρ Q3 →
    (∀ ρ' σ', Rel F U ρ' σ' H → (∀ a, Own ρ' σ' a → Own ρ σ a) → (∀ vs : List Nat, (∀ i ∈ ix, i ∈ vs) → wipe σ' vs = wipe σ vs) → Q3 ρ' → Q2 σ' H) → g2 vs σ H Q2
theorem wipe_get (σ : St) : ∀ (vs : List Nat) (j : Nat), (wipe σ vs)[j]? = if j ∈ vs then (σ[j]?).map (fun _ => none) else σ[j]?
  | [], j => by simp [wipe]
  | v :: vs, j => by
    unfold wipe
    by_cases e : v = j
    · subst e
      by_cases hl : v < σ.length
      · rw [List.getElem?_set_self (by rw [wipe_length]; exact hl)]
        simp [List.getElem?_eq_getElem hl]
      · rw [List.getElem?_eq_none (by rw [List.length_set, wipe_length]; omega)]
        simp [List.getElem?_eq_none (Nat.le_of_not_lt hl)]
    · rw [List.getElem?_set_ne e, wipe_get σ vs j]
      have : (j ∈ v :: vs) = (j ∈ vs) := by simp [Ne.symm e]
      simp only [this]
theorem wipe_set {σ : St} {i : Nat} {x : Option V} {vs : List Nat} (h : i ∈ vs) : wipe (σ.set i x) vs = wipe σ vs := by
  apply List.ext_getElem?
  intro j
  rw [wipe_get, wipe_get]
  by_cases e : i = j
  · subst e
    rw [if_pos h, if_pos h]
    by_cases hl : i < σ.length
    · rw [List.getElem?_set_self hl, List.getElem?_eq_getElem hl]; rfl
    · rw [List.getElem?_eq_none (by rw [List.length_set]; omega), List.getElem?_eq_none (by omega)]
  · rw [List.getElem?_set_ne e]
def unl (ρ : En) (i : Nat) : Bool := match ρ[i]? with
  | some s => !s.locked
  | none => false
theorem unl_out {i : Nat} (h : unl ρ i = true) : ∃ s, ρ[i]? = some s ∧ s.locked = false := by
  unfold unl at h
  cases e : ρ[i]? with
  | none => rw [e] at h; cases h
  | some s => rw [e] at h; exact ⟨s, rfl, by simpa using h⟩
def gN (i : Nat) : T3G := fun d ρ Q => unl ρ i = true ∧ Q (ρ.set i (.shr d))
theorem Own_setNo {i : Nat} {s' : Sl} {v : Option V} {a : Addr} (w : s'.isW = false) (h : Own (ρ.set i s') (σ.set i v) a) : Own ρ σ a := by
  obtain ⟨j, t, o, q1, q2, q3⟩ := h
  rcases set_get q1 with ⟨e, rfl, _⟩ | ⟨ne, q1⟩
  · exact absurd q3 (reg_noW w)
  · rw [List.getElem?_set_ne ne] at q2
    exact ⟨j, t, o, q1, q2, q3⟩
theorem Own_setShr {i : Nat} {d : D} {v : Option V} {a : Addr} (h : Own (ρ.set i (.shr d)) (σ.set i v) a) : Own ρ σ a := Own_setNo rfl h
theorem simGN (i : Nat) : SimG K false (gName i) (gN i) [i] := by
  intro F U ρ σ H x v Q3 Q2 e R r q k
  have r : Rp F.K H U x v := r.elim id fun z => nomatch z.1
  obtain ⟨s, h1, h2⟩ := unl_out q.1
  exact k _ _ (R.setShr h1 h2 r) (fun a h => Own_setShr h) (fun vs h => wipe_set (h i (by simp))) q.2
theorem simGNil : SimGs K gNil (fun xs ρ Q => xs = [] ∧ Q ρ) [] := by
  intro F U ρ σ H xs vs Q3 Q2 e R r q k
  obtain ⟨rfl, q⟩ := q
  simp only [RpAll] at r
  exact ⟨r, k ρ σ R (fun _ h => h) (fun _ _ => rfl) q⟩
theorem simGCons {t : TG} {u : TGs} {f : T3G} {g : List D → En → (En → Prop) → Prop} {is js : List Nat} (h : SimG K false t f is) (h' : SimGs K u g js) :
    SimGs K (gCons t u) (fun xs ρ Q => match xs with | x :: r => f x ρ fun ρ1 => g r ρ1 Q | [] => False) (is ++ js) := by
  intro F U ρ σ H xs vs Q3 Q2 e R r q k
  cases xs with
  | nil => exact q.elim
  | cons x xs =>
    simp only [RpAll] at r
    obtain ⟨v, w, rfl, r1, r2⟩ := r
    refine ⟨v, w, rfl, h F U ρ σ H x v _ _ e R (.inl r1) q fun ρ1 σ1 R1 o1 w1 q1 => ?_⟩
    exact h' F U ρ1 σ1 H xs w _ _ e R1 r2 q1 fun ρ2 σ2 R2 o2 w2 q2 => k ρ2 σ2 R2 (fun a z => o1 a (o2 a z))
      (fun vs hv => (w2 vs fun i hi => hv i (List.mem_append_right _ hi)).trans (w1 vs fun i hi => hv i (List.mem_append_left _ hi))) q2
def gT (n : Nat) (g : List D → En → (En → Prop) → Prop) : T3G := fun d ρ Q => match d with
  | .tup ds => ds.length = n ∧ g ds ρ Q
  | _ => False
theorem simGT {wk : Bool} {n : Nat} {t : TGs} {g : List D → En → (En → Prop) → Prop} {is : List Nat} (h : SimGs K t g is) : SimG K wk (gTup K n t) (gT n g) is := by
  intro F U ρ σ H x v Q3 Q2 e R r q k
  subst e
  cases x <;> first | exact q.elim | skip
  rename_i ds
  obtain ⟨q1, q2⟩ := q
  have : ∃ a vs, v = .ref a ∧ SqT F.K H a vs ∧ RpAll F.K H U ds vs := by
    rcases r with r | ⟨_, T, vs, es, rfl, he, h1, h2⟩
    · simp only [Rp] at r
      obtain ⟨a, vs, rfl, h1, h2⟩ := r
      exact ⟨a, vs, rfl, h1.sq, h2⟩
    · cases he
      exact ⟨T, vs, rfl, h1, h2⟩
  obtain ⟨a, vs, rfl, h1, h2⟩ := this
  exact ⟨a, vs, rfl, h1, by rw [h2.len]; exact q1, h F U ρ σ H ds vs _ _ rfl R h2 q2 k⟩

/-! ### assignments -/
/-- to a target: a shared value; y = x of an owned x moves it -/
def sAsg (f : T3E) (g : T3G) : T3S := fun D ρ => f ρ fun r ρ1 => match r with
  | .val d => g d ρ1 D.nx
  | _ => False
theorem simAsg {t : TE} {f : T3E} {g : TG} {g3 : T3G} {is : List Nat} (h : SimE K t f) (hg : SimG K false g g3 is) : SimS K (tAsg t g) (sAsg f g3) := fun F U ρ σ H D3 D2 e R q k =>
  h F U ρ σ H _ _ e R q fun r v ρ1 H1 R1 s1 q1 h1 => by
    cases r with
    | sl i => exact h1.elim
    | bx _ _ _ => exact h1.elim
    | val d => exact hg F U ρ1 σ H1 d v _ _ e R1 (.inl q1) h1 fun ρ2 σ2 R2 _ _ q2 => k.nx U ρ2 σ2 H1 R2 q2
/-- a lent slot that shields an address which is new has shared data -/
theorem Rel.brwNew {U1 : US} {ρ1 : En} {H1 : Hp} (R1 : Rel F U1 ρ1 σ2 H1) (R : Rel F U ρ σ H) {a : Addr} (hn : H a = none) {j : Nat} {e : D} (q1 : ρ1[j]? = some (.brw e)) {b : Addr} (q2 : σ2[j]? = some (some (.ref b))) (hb : e.reg b a) : Rp F.K H1 U1 e (.ref b) := by
  rcases R1.bor j e _ q1 q2 with ⟨v, ev, r⟩ | ⟨b', eb, tb, nb⟩
  · cases ev; exact r
  · cases eb
    obtain ⟨l1, l2⟩ := R1.lock j _ _ q1 rfl
    rcases R.b0 j e l1 with ⟨v, ev, r⟩ | ⟨b', eb, ho⟩
    · rw [← l2, q2] at ev; cases ev
      exact Rp.pres R1.pres0 e _ r
    · rw [← l2, q2] at eb; cases eb
      exfalso
      obtain ⟨o, ho⟩ := ho a hb
      obtain ⟨o', h'⟩ := R.ktr a o ho
      rw [hn] at h'; cases h'
/-- x = a new object, x owned -/
def sAsgO (f : En → (D → En → Prop) → Prop) (i : Nat) : T3S := fun D ρ => f ρ fun d ρ1 => unl ρ1 i = true ∧ D.nx (ρ1.set i (.own d))
theorem simAsgO {t : TE} {f : En → (D → En → Prop) → Prop} (h : SimEO K t f) (i : Nat) : SimS K (tAsg t (gName i)) (sAsgO f i) := fun F U ρ σ H D3 D2 e R q k =>
  h F U ρ σ H _ _ e R q fun d a ρ1 H1 R1 s1 hn t1 h1 => by
    obtain ⟨s, z1, z2⟩ := unl_out h1.1
    have no : ¬ Own ρ1 σ a := fun z => by
      have := R.ownU (s1.own a z)
      obtain ⟨o, ho⟩ := R.tr a this
      rw [hn] at ho; cases ho
    refine k.nx _ _ _ H1 (R1.setOwn z1 z2 ⟨t1, .inr rfl, up_new R hn⟩ no fun j e' q1 b q2 hb => R1.brwNew R hn q1 q2 hb) h1.2
end
end L3

set_option Elab.async false
set_option linter.all false
set_option maxRecDepth 100000
namespace L3
open PySem PySem.Spec L2
open PyProof.Rows (b2i)

/-! ### what is walked -/
section
variable {X : Cx} {tg : Expr}
def iSeq (K : PySem.W.Frag) (tl : TE) : TI := fun σ H R => tl σ H fun x H1 => ∃ a, x = .ref a ∧ (((∃ xs, SqL K H1 a xs) ∧ R (Itl K a) H1) ∨ ((∃ xs, SqT K H1 a xs) ∧ R (Itt K a) H1))
theorem pi_seq {l : Expr} {tl : TE} (hl : PE X l tl) : PI X tg l (iSeq X.K tl) := by
  refine ⟨fun pins s σ H R I h => ?_⟩
  refine thn (hl.run pins s σ H _ I h) fun v s1 ⟨x, H1, I1, r1, q1⟩ => ?_
  obtain ⟨a, e, q1⟩ := q1
  subst e
  cases r1
  rcases q1 with ⟨⟨xs, hq⟩, q⟩ | ⟨⟨xs, hq⟩, q⟩
  · obtain ⟨its, rv, p, hz⟩ := I1.list hq
    refine wpAny_pyIter_list p.isList ?_
    refine ⟨s1.heap.objs.size, [s1.heap.objs.size], _, _, H1, rfl, I1.kept (t' := s1.toks) fun b o e => Heap.get?_push_of_some _ e, turn_list a _, ⟨_, Heap.get?_push_size _ rfl, rfl, rfl⟩, fun b hb => ?_, q⟩
    have e : b = s1.heap.objs.size := by simpa using hb
    subst e
    exact I1.fpOk (Nat.le_refl _) (I1.hok.fresh (Nat.le_refl _))
  · obtain ⟨its, rv, p, hz⟩ := I1.tuple hq
    refine wpAny_pyIter_tuple (show s1.heap.IsTuple a its.toArray from p) ?_
    refine ⟨s1.heap.objs.size, [s1.heap.objs.size], _, _, H1, rfl, I1.kept (t' := s1.toks) fun b o e => Heap.get?_push_of_some _ e, turn_tuple a _, ⟨_, Heap.get?_push_size _ rfl, rfl, rfl⟩, fun b hb => ?_, q⟩
    have e : b = s1.heap.objs.size := by simpa using hb
    subst e
    exact I1.fpOk (Nat.le_refl _) (I1.hok.fresh (Nat.le_refl _))
end

structure It3 where
  items : List D
  r : Rs
abbrev T3I := En → (It3 → En → Prop) → Prop
def JOk (K : PySem.W.Frag) (U : US) (H : Hp) (W : US) (wk : Bool) (J : It) (items : List D) : Prop :=
  ∀ (F2 : Fr) (U2 : US) (ρ2 : En) (σ2 : St) (H2 : Hp), F2.K = K → Rel F2 U2 ρ2 σ2 H2 → Pres H U H2 U2 → (∀ a o, H a = some o → ¬ W a → H2 a = some o) → ∀ i : Nat,
    (∀ d, items[i]? = some d → J.go i H2 ∧ ∀ x H3, J.yld i H2 x H3 → (∀ a o, H2 a = some o → H3 a = some o) ∧ RpW K H3 U2 wk d x) ∧ (items.length ≤ i → J.stop i H2)
def SimI (K : PySem.W.Frag) (wk : Bool) (w2 : TI) (w3 : T3I) : Prop :=
  ∀ (F : Fr) (U : US) (ρ : En) (σ : St) (H : Hp) (Q3 : It3 → En → Prop) (R2 : It → Hp → Prop), F.K = K → Rel F U ρ σ H → w3 ρ Q3 →
    (∀ J it ρ' H', Rel F U ρ' σ H' → Stp ρ σ H ρ' H' → JOk K U H' (Own (lockE ρ' it.r) σ) wk J it.items → Q3 it ρ' → R2 J H') → w2 σ H R2
section
variable {F : Fr} {U U2 : US} {ρ ρ' ρ2 : En} {σ σ2 : St} {H H' H2 : Hp} {K : PySem.W.Frag}
theorem Own_lockI {i : Nat} {a : Addr} (h : Own (lockI ρ i) σ a) : Own ρ σ a := by
  by_cases w : ∃ s, ρ[i]? = some s ∧ s.isW = true
  · obtain ⟨s, h1, w⟩ := w
    obtain ⟨d, hd⟩ : ∃ d, s.dat = some d := by cases s <;> first | (cases w; done) | exact ⟨_, rfl⟩
    rw [lockI_w h1 w hd] at h
    obtain ⟨j, t, o, q1, q2, q3⟩ := h
    rcases set_get q1 with ⟨_, rfl, _⟩ | ⟨_, q1⟩
    · exact absurd q3 (reg_noW rfl)
    · exact ⟨j, t, o, q1, q2, q3⟩
  · rw [lockI_no fun s e => Bool.eq_false_iff.mpr fun z => w ⟨s, e, z⟩] at h
    exact h
theorem Own_lockE (R : Rel F U ρ σ H) {r : Rs} {a : Addr} (h : Own (lockE ρ r) σ a) : Own ρ σ a := by
  cases r with
  | val d => exact h
  | sl i => exact Own_lockI h
  | bx i f b => exact Own_lockI h
theorem lock_off (R : Rel F U ρ σ H) {i : Nat} {s : Sl} {o : Option V} {x : Addr} (h1 : ρ[i]? = some s) (h2 : σ[i]? = some o) (hx : s.reg o x) : ¬ Own (lockI ρ i) σ x := fun z => by
  have w := hx.1
  obtain ⟨d, hd⟩ : ∃ d, s.dat = some d := by cases s <;> first | (cases w; done) | exact ⟨_, rfl⟩
  rw [lockI_w h1 w hd] at z
  obtain ⟨j, t, o', q1, q2, q3⟩ := z
  rcases set_get q1 with ⟨_, rfl, _⟩ | ⟨ne, q1⟩
  · exact absurd q3 (reg_noW rfl)
  · exact ne (R.inj i j s t _ _ _ h1 q1 h2 q2 hx q3)
theorem lookup_bxs : ∀ {fs : List (Str × D)} {f : Str} {b : Addr} {d : D}, fs.lookup f = some (.bx b d) → b ∈ bxsF fs
  | [], _, _, _, e => by cases e
  | (k, d') :: fs, f, b, d, e => by
    rw [List.lookup_cons] at e
    cases hk : (f == k) with
    | true => rw [hk] at e; cases e; exact List.mem_cons_self ..
    | false =>
      rw [hk] at e
      have := lookup_bxs e
      cases d' <;> first | exact this | exact List.mem_cons_of_mem _ this
/-- what a loop holds stands -/
theorem RV.held (R : Rel F U ρ σ H) {r : Rs} {v : V} {d : D} (h : RV F U σ H r v) (e : r.dat ρ = some d) : Rp F.K H U d v ∨ ∃ a, v = .ref a ∧ TopR F.K H U d a ∧ ¬ Own (lockE ρ r) σ a := by
  cases r with
  | val d' => cases e; exact .inl h
  | bx i f b =>
    rcases h.get R e with z | ⟨a, ea, t⟩
    · exact .inl z
    · refine .inr ⟨a, ea, t, ?_⟩
      have hv : v = .ref b := h
      rw [hv] at ea; cases ea
      have e : (match boxOf ρ i f with | some (b', d) => if b' = b then some d else none | none => none) = some d := e
      cases hb : boxOf ρ i f with
      | none => rw [hb] at e; cases e
      | some p =>
        obtain ⟨b', d'⟩ := p
        rw [hb] at e
        have e : (if b' = b then some d' else none) = some d := e
        by_cases z : b' = b
        · subst z
          obtain ⟨s, C, fs, h1, h2, h3⟩ := boxOf_out hb
          have hi : i < σ.length := by rw [← R.len]; exact (List.getElem?_eq_some_iff.mp h1).1
          have hσ : σ[i]? = some σ[i] := List.getElem?_eq_getElem hi
          cases w : isBrw ρ i with
          | false =>
            obtain ⟨s', C', fs', a, g1, g2, g3, g4, g5, g6, _⟩ := (R.box hb).2 w
            exact lock_off R g1 g6 ⟨g2, .inr (by cases s' <;> first | (cases g3; done) | (cases g2; done) | (cases g4; exact lookup_bxs g5))⟩
          | true =>
            intro z
            have z := Own_lockE R z
            cases s <;> first | (simp [isBrw, h1] at w; done) | skip
            cases h2
            rcases R.bor i _ _ h1 hσ with ⟨v, _, g⟩ | ⟨a, _, _, n⟩
            · simp only [Rp] at g
              obtain ⟨a, dx, gs, _, _, _, g⟩ := g
              exact (g.noBx h3).elim
            · exact n b' (.inr (lookup_bxs h3)) z
        · rw [if_neg z] at e; cases e
  | sl i =>
    have h : σ[i]? = some (some v) := h
    have e : (match ρ[i]? with | some s => s.dat | none => none) = some d := e
    cases hs : ρ[i]? with
    | none => rw [hs] at e; cases e
    | some s =>
      rw [hs] at e
      have q := R.slot i s _ hs h
      have off : ∀ {a}, s.isW = true → v = .ref a → ¬ Own (lockE ρ (.sl i)) σ a := fun {a} hw ha => lock_off R hs h ⟨hw, .inl (by rw [ha])⟩
      cases s with
      | emp => cases e
      | shr d' => cases e; obtain ⟨v', e', q⟩ := q; cases e'; exact .inl q
      | own d' => cases e; obtain ⟨a, e', _, q⟩ := q; cases e'; exact .inr ⟨a, rfl, q.r, off rfl rfl⟩
      | par d' => cases e; obtain ⟨a, e', _, q⟩ := q; cases e'; exact .inr ⟨a, rfl, q.r, off rfl rfl⟩
      | owb d' => cases e; obtain ⟨a, e', _, q⟩ := q; cases e'; exact .inr ⟨a, rfl, q.r, off rfl rfl⟩
      | pab d' => cases e; obtain ⟨a, e', _, q⟩ := q; cases e'; exact .inr ⟨a, rfl, q.r, off rfl rfl⟩
      | brw d' =>
        cases e
        rcases R.bor i d _ hs h with ⟨v', e', q2⟩ | ⟨a, e', q2, n⟩
        · cases e'; exact .inl q2
        · cases e'; exact .inr ⟨a, rfl, q2, fun z => n a (.inl rfl) (Own_lockE R z)⟩
/-- the list of such a value, later on -/
theorem heldL (R : Rel F U ρ σ H) {r : Rs} {v : V} {ds : List D} (h : RV F U σ H r v) (e : r.dat ρ = some (.lst ds)) : ∃ a vs, v = .ref a ∧ Rd H a (.lst vs) ∧ RpAll F.K H U ds vs ∧ ∀ (H2 : Hp) (U2 : US), Pres H U H2 U2 → (∀ a o, H a = some o → ¬ Own (lockE ρ r) σ a → H2 a = some o) → Rd H2 a (.lst vs) := by
  rcases h.held R e with q | ⟨a, rfl, ⟨vs, q1, q2⟩, n⟩
  · simp only [Rp] at q
    obtain ⟨a, vs, rfl, h1, h2⟩ := q
    exact ⟨a, vs, rfl, .inl h1.1, h2, fun H2 U2 p _ => .inl (p a _ h1.1 h1.2).1⟩
  · refine ⟨a, vs, rfl, q1, q2, fun H2 U2 _ kp => ?_⟩
    rcases q1 with q1 | ⟨o, q1⟩
    · exact .inl (kp a _ q1 n)
    · exact .inr ⟨o, kp a _ q1 n⟩
def iS (f : T3E) : T3I := fun ρ Q => f ρ fun r ρ1 => wd r ρ1 fun d => match d with
  | .lst ds => Q ⟨ds, r⟩ ρ1
  | .tup ds => Q ⟨ds, r⟩ ρ1
  | .scr ns => Q ⟨ns.map D.int, .val .non⟩ ρ1
  | _ => False
theorem scr_sq {ns : List Int} {v : V} (h : Rp K H U (.scr ns) v) : ∃ a, v = .ref a ∧ SqL K H a (ns.map V.int) := by
  simp only [Rp] at h
  obtain ⟨a, e, h⟩ := h
  refine ⟨a, e, ?_⟩
  rcases h with ⟨o, its, n, h1, h2, h3, h4, h5, h6⟩ | ⟨o, h, _⟩
  · exact .inr ⟨o, its, n, h1, h2, h3, h4, h5, h6⟩
  · exact .inl (.inr ⟨o, h⟩)
theorem len_idx {α : Type} {l : List α} {i : Nat} (h : l.length ≤ i) : l[i]? = none := List.getElem?_eq_none h
theorem RdL_inj {H : Hp} {a : Addr} {vs ws : List V} (K : PySem.W.Frag) (h : Rd H a (.lst vs)) (q : Rd H a (.lst ws)) : ws = vs := by
  rcases h with h | ⟨o, h⟩ <;> rcases q with q | ⟨o', q⟩ <;> rw [h] at q <;> cases q <;> rfl
theorem simIS {t : TE} {f : T3E} (h : SimE K t f) : SimI K false (iSeq K t) (iS f) := by
  intro F U ρ σ H Q3 R2 e R q k
  refine h F U ρ σ H _ _ e R q fun r v ρ1 H1 R1 s1 q1 h1 => ?_
  subst e
  obtain ⟨d, e1, h1⟩ := wd_out h1
  cases d <;> first | exact h1.elim | skip
  · rename_i ds
    obtain ⟨a, vs, rfl, z1, z2, z3⟩ := q1.tup R1 e1
    refine ⟨a, rfl, .inr ⟨⟨vs, z1⟩, k _ ⟨ds, r⟩ ρ1 H1 R1 s1 ?_ h1⟩⟩
    intro F2 U2 ρ2 σ2 H2 eK R2' p kp i
    have z4 := Rp.pres p _ _ z3
    simp only [Rp] at z4
    obtain ⟨a', ws, ea, w1, w2⟩ := z4
    cases ea
    refine ⟨fun d hd => ?_, fun hi => ⟨ws, w1.sq, by rw [w2.len]; exact hi⟩⟩
    obtain ⟨x, hx, rx⟩ := w2.get hd
    exact ⟨⟨ws, x, w1.sq, hx⟩, fun y H3 hy => by
      obtain ⟨rfl, hy⟩ := hy
      have := hy ws w1.sq
      rw [hx] at this; cases this
      exact ⟨fun _ _ h => h, .inl rx⟩⟩
  · rename_i ds
    obtain ⟨a, vs, rfl, z1, z2, z3⟩ := heldL R1 q1 e1
    refine ⟨a, rfl, .inl ⟨⟨vs, .inl z1⟩, k _ ⟨ds, r⟩ ρ1 H1 R1 s1 ?_ h1⟩⟩
    intro F2 U2 ρ2 σ2 H2 eK R2' p kp i
    have w1 := z3 H2 U2 p kp
    have w2 := RpAll.pres p ds vs z2
    refine ⟨fun d hd => ?_, fun hi => ⟨vs, .inl w1, by rw [w2.len]; exact hi⟩⟩
    obtain ⟨x, hx, rx⟩ := w2.get hd
    exact ⟨⟨vs, x, .inl w1, hx⟩, fun y H3 hy => by
      obtain ⟨rfl, hy⟩ := hy
      have := hy vs (.inl w1)
      rw [hx] at this; cases this
      exact ⟨fun _ _ h => h, .inl rx⟩⟩
  · rename_i ns
    have z : Rp F.K H1 U (.scr ns) v := by
      rcases q1.get R1 e1 with z | ⟨a, _, z⟩
      · exact z
      · exact z.elim
    obtain ⟨a, rfl, z1⟩ := scr_sq z
    refine ⟨a, rfl, .inl ⟨⟨_, z1⟩, k _ ⟨ns.map D.int, .val .non⟩ ρ1 H1 R1 s1 ?_ h1⟩⟩
    intro F2 U2 ρ2 σ2 H2 eK R2' p kp i
    obtain ⟨a', ea, w1⟩ := scr_sq (Rp.pres p _ _ z)
    cases ea
    refine ⟨fun d hd => ?_, fun hi => ⟨_, w1, by rw [List.length_map]; simpa using hi⟩⟩
    rw [List.getElem?_map] at hd
    obtain ⟨c, hc, rfl⟩ := Option.map_eq_some_iff.mp hd
    have hx : (ns.map V.int)[i]? = some (.int c) := by rw [List.getElem?_map, hc]; rfl
    exact ⟨⟨_, _, w1, hx⟩, fun y H3 hy => by
      obtain ⟨rfl, hy⟩ := hy
      have := hy _ w1
      rw [hx] at this; cases this
      exact ⟨fun _ _ h => h, .inl rp_int⟩⟩
/-- rngD lo, lo + c, .. -/
def rngD (lo c : Int) (n : Nat) : List D := (List.range n).map fun i => D.int (lo + (i : Nat) * c)
theorem rngD_get {lo c : Int} {n i : Nat} {d : D} (h : (rngD lo c n)[i]? = some d) : i < n ∧ d = .int (lo + (i : Nat) * c) := by
  unfold rngD at h
  rw [List.getElem?_map] at h
  by_cases hi : i < n
  · rw [List.getElem?_range hi] at h
    exact ⟨hi, (Option.some.inj h).symm⟩
  · rw [List.getElem?_eq_none (by rw [List.length_range]; omega)] at h; cases h
theorem rngD_len {lo c : Int} {n : Nat} : (rngD lo c n).length = n := by simp [rngD]
theorem jok_r {lo : Int} {n : Nat} {W : US} : JOk K U H W false (Itr lo n) (rngD lo 1 n) := by
  intro F2 U2 ρ2 σ2 H2 eK R2 p kp i
  refine ⟨fun d hd => ?_, fun hi => by rw [rngD_len] at hi; exact hi⟩
  obtain ⟨hi, rfl⟩ := rngD_get hd
  exact ⟨hi, fun x H3 hy => by
    obtain ⟨rfl, rfl⟩ := hy
    refine ⟨fun _ _ h => h, .inl ?_⟩
    rw [Int.mul_one]
    exact rp_int⟩
theorem jok_c {lo c : Int} {n : Nat} {W : US} : JOk K U H W false (Itc lo c n) (rngD lo c n) := by
  intro F2 U2 ρ2 σ2 H2 eK R2 p kp i
  refine ⟨fun d hd => ?_, fun hi => by rw [rngD_len] at hi; exact hi⟩
  obtain ⟨hi, rfl⟩ := rngD_get hd
  exact ⟨hi, fun x H3 hy => by
    obtain ⟨rfl, rfl⟩ := hy
    exact ⟨fun _ _ h => h, .inl rp_int⟩⟩
def iR1 (g : T3A) : T3I := fun ρ Q => g ρ fun rs ρ1 => match rs with
  | [x] => wd x ρ1 fun d => match d with
    | .int j => (-(2 ^ 62) ≤ j ∧ j < 2 ^ 62) ∧ Q ⟨rngD 0 1 j.toNat, .val .non⟩ ρ1
    | _ => False
  | _ => False
theorem simIR1 {t : TA} {g : T3A} (h : SimA K t g) : SimI K false (iRng1 t) (iR1 g) := by
  intro F U ρ σ H Q3 R2 e R q k
  refine h F U ρ σ H _ _ e R q fun rs vs ρ1 H1 R1 s1 q1 h1 => ?_
  cases q1 with
  | nil => exact h1.elim
  | cons q1 qs =>
    cases qs with
    | cons _ _ => exact h1.elim
    | nil =>
      obtain ⟨d, e1, h1⟩ := wd_out h1
      cases d <;> first | exact h1.elim | skip
      exact ⟨_, by rw [q1.int R1 e1], h1.1.1, h1.1.2, k _ ⟨_, .val .non⟩ ρ1 H1 R1 s1 jok_r h1.2⟩
def w2A (rs : List Rs) (ρ : En) (k : Int → Int → Prop) : Prop := match rs with
  | [x, y] => w2I x y ρ k
  | _ => False
theorem w2A_out {rs : List Rs} {vs : List V} {k : Int → Int → Prop} (R : Rel F U ρ σ H) (q : RVs F U σ H rs vs) (h : w2A rs ρ k) : ∃ i j, vs = [.int i, .int j] ∧ k i j := by
  unfold w2A at h
  split at h
  · rename_i x y
    cases q with
    | cons q1 qs =>
      cases qs with
      | cons q2 qs =>
        cases qs
        obtain ⟨i, j, e1, e2, h⟩ := w2I_out h
        exact ⟨i, j, by rw [q1.int R e1, q2.int R e2], h⟩
  · exact h.elim
def iR2 (g : T3A) : T3I := fun ρ Q => g ρ fun rs ρ1 => w2A rs ρ1 fun i j => (-(2 ^ 62) ≤ i ∧ i < 2 ^ 62 ∧ -(2 ^ 62) ≤ j ∧ j < 2 ^ 62) ∧ Q ⟨rngD i 1 (j - i).toNat, .val .non⟩ ρ1
theorem simIR2 {t : TA} {g : T3A} (h : SimA K t g) : SimI K false (iRng2 t) (iR2 g) := by
  intro F U ρ σ H Q3 R2 e R q k
  refine h F U ρ σ H _ _ e R q fun rs vs ρ1 H1 R1 s1 q1 h1 => ?_
  obtain ⟨i, j, rfl, h1⟩ := w2A_out R1 q1 h1
  exact ⟨i, j, rfl, h1.1, k _ ⟨_, .val .non⟩ ρ1 H1 R1 s1 jok_r h1.2⟩
/-- range(i, j, -1) -/
def iRm (g : T3A) : T3I := fun ρ Q => g ρ fun rs ρ1 => match rs with
  | [x, y, z] => w2I x y ρ1 fun i j => wd z ρ1 fun dz => match dz with
    | .int c => c = -1 ∧ (-(2 ^ 62) ≤ i ∧ i < 2 ^ 62 ∧ -(2 ^ 62) ≤ j ∧ j < 2 ^ 62) ∧ Q ⟨rngD i (-1) (i - j).toNat, .val .non⟩ ρ1
    | _ => False
  | _ => False
theorem simIRm {t : TA} {g : T3A} (h : SimA K t g) : SimI K false (iRng3 t) (iRm g) := by
  intro F U ρ σ H Q3 R2 e R q k
  refine h F U ρ σ H _ _ e R q fun rs vs ρ1 H1 R1 s1 q1 h1 => ?_
  split at h1
  · rename_i x y z
    cases q1 with
    | cons q1 qs =>
      cases qs with
      | cons q2 qs =>
        cases qs with
        | cons q3 qs =>
          cases qs
          obtain ⟨i, j, e1, e2, h1⟩ := w2I_out h1
          obtain ⟨dz, e3, h1⟩ := wd_out h1
          cases dz <;> first | exact h1.elim | skip
          obtain ⟨rfl, ⟨b1, b2, b3, b4⟩, h1⟩ := h1
          exact ⟨i, j, -1, _, by rw [q1.int R1 e1, q2.int R1 e2, q3.int R1 e3], RgC.neg b1 b2 b3 b4, k _ ⟨_, .val .non⟩ ρ1 H1 R1 s1 jok_c h1⟩
  · exact h1.elim
/-- enumerate(a list) -/
def pairsD (ds : List D) : List D := ds.zipIdx.map fun p => D.tup [.int (p.2 : Nat), p.1]
theorem pairsD_get {ds : List D} {i : Nat} {d : D} (h : (pairsD ds)[i]? = some d) : ∃ x, ds[i]? = some x ∧ d = .tup [.int (i : Nat), x] := by
  unfold pairsD at h
  rw [List.getElem?_map, List.getElem?_zipIdx] at h
  cases e : ds[i]? with
  | none => rw [e] at h; cases h
  | some x => rw [e] at h; simp at h; exact ⟨x, rfl, h.symm⟩
theorem pairsD_len (ds : List D) : (pairsD ds).length = ds.length := by simp [pairsD]
def iE (g : T3A) : T3I := fun ρ Q => g ρ fun rs ρ1 => match rs with
  | [x] => wd x ρ1 fun d => match d with
    | .lst ds => Q ⟨pairsD ds, x⟩ ρ1
    | _ => False
  | _ => False
theorem simIE {t : TA} {g : T3A} (h : SimA K t g) : SimI K true (iEnum K t) (iE g) := by
  intro F U ρ σ H Q3 R2 e R q k
  refine h F U ρ σ H _ _ e R q fun rs vs ρ1 H1 R1 s1 q1 h1 => ?_
  subst e
  cases q1 with
  | nil => exact h1.elim
  | cons q1 qs =>
    cases qs with
    | cons _ _ => exact h1.elim
    | nil =>
      rename_i r v
      obtain ⟨d, e1, h1⟩ := wd_out h1
      cases d <;> first | exact h1.elim | skip
      rename_i ds
      obtain ⟨a, vs, rfl, z1, z2, z3⟩ := heldL R1 q1 e1
      refine ⟨a, vs, rfl, .inl z1, k _ ⟨_, r⟩ ρ1 H1 R1 s1 ?_ h1⟩
      intro F2 U2 ρ2 σ2 H2 eK R2' p kp i
      have w1 := z3 H2 U2 p kp
      have w2 := RpAll.pres p ds vs z2
      refine ⟨fun d hd => ?_, fun hi => ⟨vs, .inl w1, by rw [w2.len]; rw [pairsD_len] at hi; exact hi⟩⟩
      obtain ⟨x, hx, rfl⟩ := pairsD_get hd
      obtain ⟨y, hy, ry⟩ := w2.get hx
      refine ⟨⟨vs, y, .inl w1, hy⟩, fun z H3 hz => ?_⟩
      obtain ⟨T, y', rfl, hT, rfl, hz⟩ := hz
      have := hz vs (.inl w1)
      rw [hy] at this; cases this
      refine ⟨ext_new hT, .inr ⟨rfl, T, _, _, rfl, rfl, .inl (.inl upd_same), ?_⟩⟩
      simp only [RpAll, Rp]
      exact ⟨_, _, rfl, rfl, _, _, rfl, Rp.pres (fun a o h n => ⟨ext_new hT a o h, n⟩) x y ry, rfl⟩

/-! ### loops -/
def E3.under (E : E3) (ρ0 : En) (r : Rs) : E3 :=
  { nx := fun ρ => okL ρ0 r ρ ∧ E.nx (unlockE ρ0 r ρ), rt := fun d ρ => okL ρ0 r ρ ∧ E.rt d (unlockE ρ0 r ρ), ro := fun d ρ => okL ρ0 r ρ ∧ E.ro d (unlockE ρ0 r ρ) }
def forL (g : T3G) (tb : T3S) (E : E3) : List D → En → Prop
  | [], ρ => E.nx ρ
  | x :: xs, ρ => g x ρ fun ρ1 => tb { E with nx := forL g tb E xs, ct := forL g tb E xs, bk := E.nx } ρ1
def sFor (w : T3I) (g : T3G) (tb : T3S) : T3S := fun E ρ => w ρ fun it ρ1 => forL g tb (E.under ρ1 it.r) it.items (lockE ρ1 it.r)
theorem Pres.at (R : Rel (F.at U ρ σ H) U2 ρ2 σ2 H2) : Pres H U H2 U2 := R.pres0
theorem unlockI_own {i j : Nat} {d : D} (ok : okI ρ j ρ2) (h : ρ2[i]? = some (.own d)) : (unlockI ρ j ρ2)[i]? = some (.own d) := by
  by_cases w : ∃ s, ρ[j]? = some s ∧ s.isW = true
  · obtain ⟨s, h1, w⟩ := w
    rw [unlockI_w h1 w]
    have ok : isB ρ2 j := by
      unfold okI at ok
      rw [h1] at ok
      have ok : (match s.isW with | true => isB ρ2 j | false => True) := ok
      rwa [w] at ok
    have ne : j ≠ i := fun z => by subst z; unfold isB at ok; rw [h] at ok; exact ok
    rw [List.getElem?_set_ne ne]; exact h
  · rw [unlockI_no fun s e => Bool.eq_false_iff.mpr fun z => w ⟨s, e, z⟩]
    exact h
theorem unlock_own {r : Rs} {i : Nat} {d : D} (ok : okL ρ r ρ2) (h : ρ2[i]? = some (.own d)) : (unlockE ρ r ρ2)[i]? = some (.own d) := by
  cases r with
  | val _ => exact h
  | sl j => exact unlockI_own ok h
  | bx j f b => exact unlockI_own ok h
theorem KS.under {D3 : E3} {D2 : Ends} (k : KS F D3 D2) (R : Rel F U ρ σ H) (r : Rs) : KS (F.at U (lockE ρ r) σ H) (D3.under ρ r) { D2 with bk := fun _ _ => False, ct := fun _ _ => False } where
  nx := fun U' ρ' σ' H' R' q => k.nx _ _ _ _ (loopOut R r R' q.1) q.2
  bk := fun _ _ _ _ _ q => q
  ct := fun _ _ _ _ _ q => q
  rt := fun U' ρ' σ' H' d v R' rp q => k.rt _ _ _ _ d v (loopOut R r R' q.1) rp q.2
  ro := fun U' ρ' σ' H' d a i R' h1 h2 q => k.ro _ _ _ _ d a i (loopOut R r R' q.1) (unlock_own q.1 h1) h2 q.2
  rf := fun U' ρ' σ' H' d a R' f q => k.rf _ _ _ _ d a (loopOut R r R' q.1) ⟨f.top, f.u, up_new R f.new⟩ q.2
theorem simFor {wk : Bool} {w : TI} {g : TG} {tb : TS} {w3 : T3I} {g3 : T3G} {tb3 : T3S} {ix : List Nat} (hw : SimI K wk w w3) (hg : SimG K wk g g3 ix) (hb : SimS K tb tb3) : SimS K (tFor w g tb) (sFor w3 g3 tb3) := by
  intro F U ρ σ H D3 D2 e R q k
  refine hw F U ρ σ H _ _ e R q fun J it ρ1 H1 R1 s1 jok h1 => ?_
  have Rf := loopIn R1 it.r
  have ku := k.under R1 it.r
  refine ⟨fun i m σ' H' => m = it.items.length - i ∧ i ≤ it.items.length ∧ ∃ U' ρ', Rel (F.at U (lockE ρ1 it.r) σ H1) U' ρ' σ' H' ∧ forL g3 tb3 (D3.under ρ1 it.r) (it.items.drop i) ρ', ⟨_, rfl, Nat.zero_le _, U, _, Rf, h1⟩, ?_⟩
  rintro i m σ' H' ⟨rfl, hi, U', ρ', R', q'⟩
  have eK : (F.at U (lockE ρ1 it.r) σ H1).K = K := e
  obtain ⟨j1, j2⟩ := jok _ U' ρ' σ' H' eK R' R'.pres0 R'.keep i
  by_cases hl : i < it.items.length
  · right
    obtain ⟨d, hd⟩ : ∃ d, it.items[i]? = some d := ⟨_, List.getElem?_eq_getElem hl⟩
    have ed : it.items.drop i = d :: it.items.drop (i + 1) := by
      rw [List.drop_eq_getElem_cons hl]
      congr 1
      rw [List.getElem?_eq_getElem hl] at hd
      exact Option.some.inj hd
    rw [ed] at q'
    obtain ⟨g1, g2⟩ := j1 d hd
    refine ⟨g1, fun σ2 H2 => ∃ U2 ρ2, Rel (F.at U (lockE ρ1 it.r) σ H1) U2 ρ2 σ2 H2 ∧ forL g3 tb3 (D3.under ρ1 it.r) (it.items.drop (i + 1)) ρ2, fun σ2 H2 z => ⟨it.items.length - (i + 1), by omega, rfl, hl, z⟩, fun x H3 hy => ?_⟩
    obtain ⟨ex, rx⟩ := g2 x H3 hy
    rw [← eK] at rx
    refine hg _ U' ρ' σ' H3 d x _ _ eK (R'.ext ex) rx q' fun ρ3 σ3 R3 _ _ q3 => ?_
    refine hb _ U' ρ3 σ3 H3 _ _ eK R3 q3 ⟨fun U4 ρ4 σ4 H4 R4 q4 => ⟨U4, ρ4, R4, q4⟩, ku.nx, fun U4 ρ4 σ4 H4 R4 q4 => ⟨U4, ρ4, R4, q4⟩, ku.rt, ku.ro, ku.rf⟩
  · left
    have e2 : i = it.items.length := by omega
    subst e2
    rw [List.drop_length] at q'
    exact ⟨j2 (Nat.le_refl _), ku.nx _ _ _ _ R' q'⟩
def sWhile (c : T3T) (tb : T3S) : T3S := fun D ρ => ∃ W : Nat → En → Prop, (∃ m, W m ρ) ∧ ∀ m ρ, W m ρ → c ρ fun b ρ1 => if b = true then tb { D with nx := fun ρ' => ∃ m', m' < m ∧ W m' ρ', ct := fun ρ' => ∃ m', m' < m ∧ W m' ρ', bk := D.nx } ρ1 else D.nx ρ1
theorem simWhile {c : TT} {tb : TS} {c3 : T3T} {tb3 : T3S} (hc : SimT K c c3) (hb : SimS K tb tb3) : SimS K (tWhile c tb) (sWhile c3 tb3) := by
  intro F U ρ σ H D3 D2 e R q k
  obtain ⟨W, ⟨m, w⟩, q⟩ := q
  refine ⟨fun m σ' H' => ∃ U' ρ', Rel F U' ρ' σ' H' ∧ W m ρ', ⟨m, U, ρ, R, w⟩, ?_⟩
  rintro m σ' H' ⟨U', ρ', R', w'⟩
  refine hc F U' ρ' σ' H' _ _ e R' (q m ρ' w') fun b ρ1 H1 R1 s1 h1 => ?_
  cases b with
  | false => exact k.nx _ _ _ _ R1 h1
  | true =>
    refine ⟨fun σ2 H2 => ∃ m', m' < m ∧ ∃ U2 ρ2, Rel F U2 ρ2 σ2 H2 ∧ W m' ρ2, fun σ2 H2 ⟨m', hm, z⟩ => ⟨m', hm, z⟩, ?_⟩
    refine hb F U' ρ1 σ' H1 _ _ e R1 h1 ⟨fun U4 ρ4 σ4 H4 R4 ⟨m', hm, z⟩ => ⟨m', hm, U4, ρ4, R4, z⟩, k.nx, fun U4 ρ4 σ4 H4 R4 ⟨m', hm, z⟩ => ⟨m', hm, U4, ρ4, R4, z⟩, k.rt, k.ro, k.rf⟩
end
end L3

set_option Elab.async false
set_option linter.all false
set_option maxRecDepth 100000
namespace L3
open PySem PySem.Spec PyProof.Rows L2

set_option maxHeartbeats 1000000 in
theorem meets_enumerate_newT {v : Value} {o : Obj} {H : Heap → Prop} (B : Begins v o H) :
    Meets (Builtin.«enumerate.__new__» ⟨[.type "enumerate", v], []⟩) (fun _ R s => H s.heap ∧
      R (.ok (.ret (.ref (s.heap.push o).objs.size))) { s with heap := (s.heap.push o).push { cls := .type "enumerate", data := .fields #[.none, .bool false, .ref s.heap.objs.size, rawInt 0, .none, .none] } }) :=
  .of_wp fun prog w A R s h => by
    obtain ⟨hp, g, d, tk, os⟩ := s; obtain ⟨h1, h⟩ := h
    have hsub := sub_enumerate
    have q1 : ∀ {A' : Around} {E : Value → Shared → Prop} {Q : Value → Shared → Prop}, Q (.ref hp.objs.size) ⟨hp.push o, g, d, tk, os⟩ → wpAny (model prog w) A' (pyIter v) Q E ⟨hp, g, d, tk, os⟩ :=
      fun q => B.iter prog w _ _ ⟨hp, g, d, tk, os⟩ _ h1 q
    wp_walk using q1
    refine wpAny_stack_any fun st => wpAny_pure ?_
    split
    · rename_i c _ _ _ _ _
      cases (c == Value.type "enumerate")
      · wp_walk using q1
        exact ⟨_, rfl, h⟩
      · wp_walk using q1
        exact ⟨_, rfl, h⟩
    · wp_walk using q1
      exact ⟨_, rfl, h⟩
theorem enum_beginsT {prog : Program} {w : World} {A : Around} {E : Value → Shared → Prop} {s : Shared} {v : Value} {o : Obj} {H : Heap → Prop} {Q : Value → Shared → Prop} (B : Begins v o H) (h1 : H s.heap)
    (h : ∀ h', IsEnum h' (s.heap.objs.size + 1) s.heap.objs.size 0 .none → h'.get? s.heap.objs.size = some o → h'.objs.size = s.heap.objs.size + 2 →
      (∀ b o, s.heap.get? b = some o → h'.get? b = some o) → Q (.ref (s.heap.objs.size + 1)) { s with heap := h' }) :
    wpAny (model prog w) A (call (.type "enumerate") [v]) Q E s := by
  refine callType_new F.called_enumerate (by decide) (F.typeCall_enumerate_1 _) (F.newCall_enumerate_1 _) (fun obj => F.args_object_init_2 obj _) F.entry_enumerate_new
    (meets_enumerate_newT B) ⟨h1, ?_⟩
  have hz : (s.heap.push o).objs.size = s.heap.objs.size + 1 := Heap.size_push ..
  show _ ∧ _
  rw [hz]
  have he : IsEnum ((s.heap.push o).push { cls := .type "enumerate", data := .fields #[.none, .bool false, .ref s.heap.objs.size, rawInt 0, .none, .none] }) (s.heap.objs.size + 1) s.heap.objs.size 0 .none := by
    have := Heap.get?_push_size (s.heap.push o) (o := { cls := .type "enumerate", data := .fields #[.none, .bool false, .ref s.heap.objs.size, rawInt 0, .none, .none] }) rfl
    rw [hz] at this; exact this
  refine ⟨⟨_, he, rfl⟩, h _ he (Heap.get?_push_of_some _ (Heap.get?_push_size _ B.free)) (by rw [Heap.size_push, hz]) fun b o x => Heap.get?_push_of_some _ (Heap.get?_push_of_some _ x)⟩
/-- the tuple at a, each item in a new pair -/
def IteT (K : PySem.W.Frag) (a : Addr) : It :=
  ⟨fun i H => ∃ (xs : List V) (x : V), SqT K H a xs ∧ xs[i]? = some x, fun i H v H' => ∃ T x, v = .ref T ∧ H T = none ∧ H' = upd H T (.tup [.int (i : Nat), x]) ∧ ∀ xs, SqT K H a xs → xs[i]? = some x, fun i H => ∃ xs : List V, SqT K H a xs ∧ xs.length ≤ i⟩
theorem turn_enumT {P : Program} {w : World} {K : PySem.W.Frag} {elts : List Expr} {kk : Nat} {tpos : Pos} (a e it : Addr) :
    Turn P w K (.Tuple elts kk tpos) (IteT K a) [e, it] e (fun i h => (∃ old, IsEnum h e it ((i : Nat) : Int) old) ∧ h.IsTupleIter it a i ∧ e ≠ it) where
  mem := by simp
  obj := fun i h st b hb => by
    obtain ⟨⟨old, he⟩, ⟨o, ho, hc, hd⟩, _⟩ := st
    have e' : b = e ∨ b = it := by simpa using hb
    rcases e' with z | z
    · rw [z]; exact ⟨_, he, fun v q => nomatch q⟩
    · rw [z]; exact ⟨o, ho, fun v q => by rw [hd] at q; cases q⟩
  keep := fun i h h' st k => let ⟨⟨old, he⟩, hi, hne⟩ := st; ⟨⟨old, k e (by simp) _ he⟩, hi.at fun o q => k it (by simp) o q, hne⟩
  item := by
    intro X hP hw hK hc i pins s σ H E I hf st hg
    subst hP hw hK
    obtain ⟨⟨old, he⟩, hit, hne⟩ := st
    obtain ⟨xs, x, hq, hx⟩ := hg
    obtain ⟨its, rv, p, hz⟩ := I.tuple hq
    obtain ⟨u, hu, ru⟩ := rv.get hx
    have hel : e < s.heap.objs.size := Heap.lt_size he
    have hil : it < s.heap.objs.size := by obtain ⟨_, q, _⟩ := hit; exact Heap.lt_size q
    have hh := I.ok.hd hc
    have hea : e ≠ a := fun z => by
      obtain ⟨o, ho, hcl, _⟩ := p
      subst z
      have he' := he
      unfold IsEnum at he'
      rw [ho] at he'; cases he'
      injection hcl with z; exact absurd z (by decide)
    have hia : a ≠ it := fun z => by
      obtain ⟨o, ho, hcl, _⟩ := p
      subst z
      obtain ⟨o', ho', hcl', _⟩ := hit
      rw [ho] at ho'; cases ho'
      rw [hcl] at hcl'
      injection hcl' with z; exact absurd z (by decide)
    have D := Draws.tuple (prog := X.prog) (w := X.w) (A := X.A.in1) (show X.A.in1.handled = none from hh) it a hia its.toArray
    have pl : s.heap.IsTuple a its.toArray := p
    have hlt : i < its.toArray.size := by
      rw [List.size_toArray]; exact (List.getElem?_eq_some_iff.mp hu).1
    refine wpAny_pyNext_enum_itemD D he ⟨hit, pl⟩ hlt hne (by simp [hne, hea]) fun y h' tk hP ho st' hT hsz hk => ?_
    have ey : y = u := by
      have hP : its.toArray[i]? = some y := hP
      have : its[i]? = some y := by simpa using hP
      rw [hu] at this; exact (Option.some.inj this).symm
    subst ey
    refine ⟨_, rfl, wpAny_letOwnedTupleGo_enum (s := { s with heap := h', toks := tk + 1 }) ho fun h'' he' sb => ?_⟩
    have hT2 : h''.get? s.heap.objs.size = some { cls := .type "tuple", data := .seq #[.int i tk, y] } := (sb.2 _ (Nat.ne_of_gt hel)).trans hT
    have new : ObjOk X.prog X.w (upd H s.heap.objs.size (.tup [.int (i : Nat), x])) h'' s.heap.objs.size (.tup [.int (i : Nat), x]) :=
      ⟨by show 2 ≤ sizeLine; decide, [.int i tk, y], .cons ⟨_, rfl⟩ (.cons ru .nil), ⟨_, hT2, rfl, _, rfl⟩⟩
    have I1 : Inv X pins σ (upd H s.heap.objs.size (.tup [.int (i : Nat), x])) { s with heap := h'', toks := tk + 1 } :=
      I.turnedNew (ch := [e, it]) (fun b ob hb q => (sb.2 b (fun z => hb (by simp [z]))).trans (hk b ob (fun z => hb (by simp [z])) (fun z => hb (by simp [z])) q)) hf (Nat.le_refl _) new
    refine ⟨.ref s.heap.objs.size, _, I1, rfl, ⟨_, x, rfl, I.hok.fresh (Nat.le_refl _), rfl, fun ys hy => ?_⟩, ⟨⟨y, ?_⟩, st'.1.at fun o q => (sb.2 it (Ne.symm hne)).trans q, hne⟩, fun b hb => ?_⟩
    · obtain ⟨its2, rv2, p2, _⟩ := I.tuple hy
      have e2 : its2 = its := by
        obtain ⟨o1, g1, _, n1, g3⟩ := (show s.heap.IsTuple a its.toArray from p)
        obtain ⟨o2, k1, _, n2, k3⟩ := (show s.heap.IsTuple a its2.toArray from p2)
        rw [g1] at k1; cases k1
        rw [g3] at k3
        injection k3 with k3 _
        have := congrArg Array.toList k3
        simpa using this.symm
      subst e2
      have : ys = xs := by
        have go : ∀ {as bs : List V} {us : List Value}, Vals as us → Vals bs us → bs = as := fun {as bs us} h1 => by
          induction h1 generalizing bs with
          | nil => intro h2; cases h2; rfl
          | @cons p q ps qs hpq _ ih =>
            intro h2
            cases h2 with
            | @cons p' q' ps' qs' hp' ht' => rw [ih ht', hpq.inj hp']
        exact go rv rv2
      rw [this]; exact hx
    · have e1 : ((i + 1 : Nat) : Int) = (i : Int) + 1 := by omega
      rw [e1]; exact he'
    · have hb' : b < s.heap.objs.size := by
        have e' : b = e ∨ b = it := by simpa using hb
        rcases e' with z | z
        · rw [z]; exact hel
        · rw [z]; exact hil
      rw [upd_ne (Nat.ne_of_lt hb')]
      exact (hf b hb).1
  done := by
    intro X hP hw hK hc i pins s σ H E I hf st hg
    subst hP hw hK
    obtain ⟨⟨old, he⟩, hit, hne⟩ := st
    obtain ⟨xs, hq, hx⟩ := hg
    obtain ⟨its, rv, p, hz⟩ := I.tuple hq
    have hh := I.ok.hd hc
    have hia : a ≠ it := fun z => by
      obtain ⟨o, ho, hcl, _⟩ := p
      subst z
      obtain ⟨o', ho', hcl', _⟩ := hit
      rw [ho] at ho'; cases ho'
      rw [hcl] at hcl'
      injection hcl' with z; exact absurd z (by decide)
    have hl := rv.length
    obtain ⟨f0, f1, f2, f3, f4, f5⟩ := hf it (by simp)
    have hT : s.TypeIs (.ref e) "enumerate" := ⟨_, he, rfl⟩
    unfold pyNext
    refine wpAny_bind (wpAny_attempt (wpAny_callSpecial?_slot (name := Str.ofString "__next__") hT F.slot_enumerate_next
      (wpAny_call_entry F.slot_enumerate_next hT F.entry_enumerate_next ?_ (F.args_enumerate_next_1 _))))
    show wpAny _ _ (field (.ref e) 2 >>= _) _ _ _
    refine wpAny_bind (wpAny_field he rfl (x := .ref it) rfl ?_)
    refine wpAny_bind (wpAny_nextOf_tuple_end hh hit (show s.heap.IsTuple a its.toArray from p) (by simp; omega) fun h' x eb hx' => ?_)
    obtain ⟨o, ho, hc2⟩ := hx'
    refine wpAny_bind (wpAny_isInstance (T := "StopIteration") (b := true) ⟨o, ho, hc2⟩ isSubtype_stop ?_)
    exact wpAny_pure ⟨rfl, I.turned (t' := s.toks) (fun b o hb q => eb b o hb q) f0 f1 f3 f4 f5⟩
  self := fun A i s Q E st h => let ⟨⟨_, he⟩, _⟩ := st; wpAny_pyIter_enum he h
def iEnumP (K : PySem.W.Frag) (ta : TA) : TI := fun σ H R => ta σ H fun vs H1 => ∃ a xs, vs = [.ref a] ∧ ((SqL K H1 a xs ∧ R (Ite K a) H1) ∨ (SqT K H1 a xs ∧ R (IteT K a) H1))
theorem pi_enumP {X : Cx} {e : Expr} {ta : TA} {p pos tpos : Pos} {elts : List Expr} {kk : Nat} (hg : Gl X "enumerate") (hm : X.mg "enumerate" = none) (ha : PA X [e] ta) (hs : starEach [e] X.env = [(false, eval e X.env)] := by rfl) :
    PI X (.Tuple elts kk tpos) (.Call (.Name "enumerate" p) [e] [] pos) (iEnumP X.K ta) := by
  refine ⟨fun pins s σ H R I h => ?_⟩
  refine Call_ (ld_blt I hg hm boot_enumerate (PyProof.Rows.callWith_type1 (thn (ha.run pos pins s σ H _ I h) fun us s1 ⟨vs, H1, I1, r1, q1⟩ => ?_) hs rfl))
  obtain ⟨a, xs, ex, q⟩ := q1
  subst ex
  cases r1 with
  | cons r rr =>
    cases rr
    cases r
    rcases q with ⟨hq, q⟩ | ⟨hq, q⟩
    · obtain ⟨its, rv, p', hz⟩ := I1.list hq
      refine call_enumerate_list p'.isList fun h' he hit hsz hk => wpAny_pyIter_enum he ?_
      have I2 : Inv X pins σ H1 { s1 with heap := h' } := I1.kept (t' := s1.toks) hk
      refine ⟨s1.heap.objs.size + 1, [s1.heap.objs.size + 1, s1.heap.objs.size], _, _, H1, rfl, I2, turn_enum a (s1.heap.objs.size + 1) s1.heap.objs.size, ⟨⟨.none, he⟩, hit, Nat.succ_ne_self _⟩, fun b hb => ?_, q⟩
      have e' : b = s1.heap.objs.size + 1 ∨ b = s1.heap.objs.size := by simpa using hb
      have hle : s1.heap.objs.size ≤ b := by
        rcases e' with z | z
        · rw [z]; exact Nat.le_add_right _ _
        · rw [z]; exact Nat.le_refl _
      exact I1.fpOk hle (I1.hok.fresh hle)
    · obtain ⟨its, rv, p', hz⟩ := I1.tuple hq
      refine enum_beginsT (begins_tuple a its.toArray) (show s1.heap.IsTuple a its.toArray from p') fun h' he hit hsz hk => wpAny_pyIter_enum he ?_
      have I2 : Inv X pins σ H1 { s1 with heap := h' } := I1.kept (t' := s1.toks) hk
      refine ⟨s1.heap.objs.size + 1, [s1.heap.objs.size + 1, s1.heap.objs.size], _, _, H1, rfl, I2, turn_enumT a (s1.heap.objs.size + 1) s1.heap.objs.size, ⟨⟨.none, he⟩, ⟨_, hit, rfl, rfl⟩, Nat.succ_ne_self _⟩, fun b hb => ?_, q⟩
      have e' : b = s1.heap.objs.size + 1 ∨ b = s1.heap.objs.size := by simpa using hb
      have hle : s1.heap.objs.size ≤ b := by
        rcases e' with z | z
        · rw [z]; exact Nat.le_add_right _ _
        · rw [z]; exact Nat.le_refl _
      exact I1.fpOk hle (I1.hok.fresh hle)
section
variable {F : Fr} {U U2 : US} {ρ ρ' ρ2 : En} {σ σ2 : L2.St} {H H' H2 : Hp} {K : PySem.W.Frag}
def iEP (g : T3A) : T3I := fun ρ Q => g ρ fun rs ρ1 => match rs with
  | [x] => wd x ρ1 fun d => match d with
    | .lst ds => Q ⟨pairsD ds, x⟩ ρ1
    | .tup ds => Q ⟨pairsD ds, x⟩ ρ1
    | _ => False
  | _ => False
theorem simIEP {t : TA} {g : T3A} (h : SimA K t g) : SimI K true (iEnumP K t) (iEP g) := by
  intro F U ρ σ H Q3 R2 e R q k
  refine h F U ρ σ H _ _ e R q fun rs vs ρ1 H1 R1 s1 q1 h1 => ?_
  subst e
  cases q1 with
  | nil => exact h1.elim
  | cons q1 qs =>
    cases qs with
    | cons _ _ => exact h1.elim
    | nil =>
      rename_i r v
      obtain ⟨d, e1, h1⟩ := wd_out h1
      cases d <;> first | exact h1.elim | skip
      · rename_i ds
        obtain ⟨a, vs, rfl, z1, z2, z3⟩ := q1.tup R1 e1
        refine ⟨a, vs, rfl, .inr ⟨z1, k _ ⟨_, r⟩ ρ1 H1 R1 s1 ?_ h1⟩⟩
        intro F2 U2 ρ2 σ2 H2 eK R2' p kp i
        have z4 := Rp.pres p _ _ z3
        simp only [Rp] at z4
        obtain ⟨a', ws, ea, w1, w2⟩ := z4
        cases ea
        refine ⟨fun d hd => ?_, fun hi => ⟨ws, w1.sq, by rw [w2.len]; rw [pairsD_len] at hi; exact hi⟩⟩
        obtain ⟨x, hx, rfl⟩ := pairsD_get hd
        obtain ⟨y, hy, ry⟩ := w2.get hx
        refine ⟨⟨ws, y, w1.sq, hy⟩, fun z H3 hz => ?_⟩
        obtain ⟨T, y', rfl, hT, rfl, hz⟩ := hz
        have := hz ws w1.sq
        rw [hy] at this; cases this
        refine ⟨ext_new hT, .inr ⟨rfl, T, _, _, rfl, rfl, .inl (.inl upd_same), ?_⟩⟩
        simp only [RpAll, Rp]
        exact ⟨_, _, rfl, rfl, _, _, rfl, Rp.pres (fun a o h n => ⟨ext_new hT a o h, n⟩) x y ry, rfl⟩
      · rename_i ds
        obtain ⟨a, vs, rfl, z1, z2, z3⟩ := heldL R1 q1 e1
        refine ⟨a, vs, rfl, .inl ⟨.inl z1, k _ ⟨_, r⟩ ρ1 H1 R1 s1 ?_ h1⟩⟩
        intro F2 U2 ρ2 σ2 H2 eK R2' p kp i
        have w1 := z3 H2 U2 p kp
        have w2 := RpAll.pres p ds vs z2
        refine ⟨fun d hd => ?_, fun hi => ⟨vs, .inl w1, by rw [w2.len]; rw [pairsD_len] at hi; exact hi⟩⟩
        obtain ⟨x, hx, rfl⟩ := pairsD_get hd
        obtain ⟨y, hy, ry⟩ := w2.get hx
        refine ⟨⟨vs, y, .inl w1, hy⟩, fun z H3 hz => ?_⟩
        obtain ⟨T, y', rfl, hT, rfl, hz⟩ := hz
        have := hz vs (.inl w1)
        rw [hy] at this; cases this
        refine ⟨ext_new hT, .inr ⟨rfl, T, _, _, rfl, rfl, .inl (.inl upd_same), ?_⟩⟩
        simp only [RpAll, Rp]
        exact ⟨_, _, rfl, rfl, _, _, rfl, Rp.pres (fun a o h n => ⟨ext_new hT a o h, n⟩) x y ry, rfl⟩
end
end L3

set_option Elab.async false
set_option linter.all false
set_option maxRecDepth 100000
namespace L3
open PySem PySem.Spec L2
open PyProof.Rows (b2i)
section
variable {F : Fr} {U U2 : US} {ρ ρ' ρ2 : En} {σ σ2 : St} {H H' H2 : Hp} {K : PySem.W.Frag}

/-! ### an owned slot is written -/
def putF' (f : Str) (d : D) : List (Str × D) → List (Str × D)
  | [] => [(f, d)]
  | (g, x) :: r => if g = f then (g, d) :: r else (g, x) :: putF' f d r
/-- the box b in the field f of an instance, with other data -/
def boxW (s : Sl) (f : Str) (b : Addr) (k : D → (D → Sl) → Prop) : Prop := match s with
  | .owb (.obj C fs) => match fs.lookup f with
    | some (.bx b' d) => b' = b ∧ k d fun d' => .owb (.obj C (putF' f (.bx b d') fs))
    | _ => False
  | .pab (.obj C fs) => match fs.lookup f with
    | some (.bx b' d) => b' = b ∧ k d fun d' => .pab (.obj C (putF' f (.bx b d') fs))
    | _ => False
  | _ => False
def ww (r : Rs) (ρ : En) (k : D → (D → En) → Prop) : Prop := match r with
  | .sl i => match ρ[i]? with
    | some (.own d) => k d fun d' => ρ.set i (.own d')
    | some (.par d) => k d fun d' => ρ.set i (.par d')
    | _ => False
  | .bx i f b => match ρ[i]? with
    | some s => boxW s f b fun d up => k d fun d' => ρ.set i (up d')
    | none => False
  | .val _ => False
theorem bxsF_put {f : Str} {b : Addr} {d d' : D} : ∀ {fs : List (Str × D)}, fs.lookup f = some (.bx b d) → bxsF (putF' f (.bx b d') fs) = bxsF fs
  | [], e => by cases e
  | (k, x) :: fs, e => by
    rw [List.lookup_cons] at e
    by_cases hk : f = k
    · subst hk
      rw [beq_self_eq_true] at e; cases e
      rw [putF', if_pos rfl]; rfl
    · have hb : (f == k) = false := beq_eq_false_iff_ne.mpr hk
      rw [hb] at e
      rw [putF', if_neg fun z => hk z.symm]
      have ih := bxsF_put (d' := d') e
      cases x <;> first | exact ih | (show _ :: _ = _ :: _; rw [ih])
/-- an instance's boxes when one of them is written -/
theorem OvF.write {b : Addr} {o' : HO} {d d' : D} {f : Str} (t : TopW K (upd H b o') U d' b) (u : U b) : ∀ {fs : List (Str × D)} {gs : List (Str × V)}, OvF K H U fs gs → (bxsF fs).Nodup → fs.lookup f = some (.bx b d) → OvF K (upd H b o') U (putF' f (.bx b d') fs) gs
  | [], _, _, _, e => by cases e
  | (k, x) :: fs, _, h, nd, e => by
    simp only [OvF] at h
    obtain ⟨v, r, rfl, h1, h2⟩ := h
    have p : Pres H U (upd H b o') U := fun y o h n => ⟨by rw [upd_ne (fun e => n (by rw [e]; exact u))]; exact h, n⟩
    rw [List.lookup_cons] at e
    by_cases hk : f = k
    · subst hk
      rw [beq_self_eq_true] at e; cases e
      rw [putF', if_pos rfl]
      have h1 : v = .ref b ∧ U b ∧ TopW K H U d b := h1
      have nd : b ∉ bxsF fs := (List.nodup_cons.mp nd).1
      simp only [OvF]
      exact ⟨v, r, rfl, ⟨h1.1, u, t⟩, h2.pres p fun x hx ux => ⟨ux, fun o ho => by rw [upd_ne (fun e : x = b => nd (by rw [← e]; exact hx))]; exact ho⟩⟩
    · have hb : (f == k) = false := beq_eq_false_iff_ne.mpr hk
      rw [hb] at e
      rw [putF', if_neg fun z => hk z.symm]
      simp only [OvF]
      refine ⟨v, r, rfl, ?_, OvF.write t u h2 (by cases x <;> first | exact nd | exact (List.nodup_cons.mp nd).2) e⟩
      cases x with
      | bx b' x =>
        obtain ⟨e1, u', t'⟩ := h1
        have hb' : b' ≠ b := fun z => (List.nodup_cons.mp nd).1 (z ▸ lookup_bxs e)
        exact ⟨e1, u', t'.pres p fun o ho => by rw [upd_ne hb']; exact ho⟩
      | _ => exact Rp.pres p _ _ h1
theorem Rel.writeSX (R : Rel F U ρ σ H) {i : Nat} {s : Sl} {a x : Addr} {d' : D} {o' : HO} (h1 : ρ[i]? = some s) (h2 : s.isW = true) (h3 : σ[i]? = some (some (.ref a))) (hx : s.reg (some (.ref a)) x)
    (hb : ∀ y, y ∈ (s.upd d').bxs → y ∈ s.bxs) (new : SlotOk F.K (upd H x o') U (s.upd d') (some (.ref a))) : Rel F U (ρ.set i (s.upd d')) σ (upd H x o') ∧ Stp ρ σ H (ρ.set i (s.upd d')) (upd H x o') := by
  refine ⟨R.writeX h1 h2 h3 hx hb new, fun y o h n => ?_, fun y ⟨j, t, o, q1, q2, q3⟩ => ?_, fun y o h => ?_⟩
  · have nx : y ≠ x := fun e => n (by rw [e]; exact ⟨i, s, _, h1, h3, hx⟩)
    rw [upd_ne nx]; exact h
  · rcases set_get q1 with ⟨e, rfl, _⟩ | ⟨_, q1⟩
    · subst e; exact ⟨i, s, o, h1, q2, reg_upd q3 hb⟩
    · exact ⟨j, t, o, q1, q2, q3⟩
  · by_cases e : y = x
    · subst e; exact ⟨_, upd_same⟩
    · exact ⟨o, by rw [upd_ne e]; exact h⟩
theorem Rel.writeS (R : Rel F U ρ σ H) {i : Nat} {s : Sl} {a : Addr} {d' : D} {o' : HO} (h1 : ρ[i]? = some s) (h2 : s.isW = true) (hf : s.flat = true) (h3 : σ[i]? = some (some (.ref a)))
    (new : TopW F.K (upd H a o') U d' a) : Rel F U (ρ.set i (s.upd d')) σ (upd H a o') ∧ Stp ρ σ H (ρ.set i (s.upd d')) (upd H a o') :=
  R.writeSX h1 h2 h3 ⟨h2, .inl rfl⟩ (fun y hy => by rw [flat_bxs (flat_upd.trans hf)] at hy; cases hy) (flat_ok h2 hf (R.ownU (Own.root h1 h2 h3)) new)
theorem ww_out (R : Rel F U ρ σ H) {r : Rs} {v : V} {k : D → (D → En) → Prop} (q : RV F U σ H r v) (h : ww r ρ k) :
    ∃ d up a, v = .ref a ∧ U a ∧ TopW F.K H U d a ∧ (∀ {d' : D} {o' : HO}, TopW F.K (upd H a o') U d' a → Rel F U (up d') σ (upd H a o') ∧ Stp ρ σ H (up d') (upd H a o')) ∧ k d up := by
  cases r with
  | val d => exact h.elim
  | sl i =>
    have q : σ[i]? = some (some v) := q
    have h : (match ρ[i]? with | some (.own d) => k d fun d' => ρ.set i (.own d') | some (.par d) => k d fun d' => ρ.set i (.par d') | _ => False) := h
    cases hs : ρ[i]? with
    | none => rw [hs] at h; exact h.elim
    | some s =>
      rw [hs] at h
      have z := R.slot i s _ hs q
      cases s with
      | own d => obtain ⟨a, e, u, t⟩ := z; cases e; exact ⟨d, _, a, rfl, u, t, fun {d' o'} t' => R.writeS hs rfl rfl q t', h⟩
      | par d => obtain ⟨a, e, u, t⟩ := z; cases e; exact ⟨d, _, a, rfl, u, t, fun {d' o'} t' => R.writeS hs rfl rfl q t', h⟩
      | _ => exact h.elim
  | bx i f b =>
    have q : v = .ref b := q
    have h : (match ρ[i]? with | some s => boxW s f b fun d up => k d fun d' => ρ.set i (up d') | none => False) := h
    cases hs : ρ[i]? with
    | none => rw [hs] at h; exact h.elim
    | some s =>
      rw [hs] at h
      have hi : i < σ.length := by rw [← R.len]; exact (List.getElem?_eq_some_iff.mp hs).1
      have hσ : σ[i]? = some σ[i] := List.getElem?_eq_getElem hi
      have z := R.slot i s _ hs hσ
      -- one proof for both kinds
      have go : ∀ (C : Addr) (fs : List (Str × D)), s.dat = some (.obj C fs) → s.isW = true → s.bxs = bxsF fs → s.upd (.obj C fs) = s → (∀ d', (s.upd d').bxs = d'.bxs) → (∀ {H' : Hp} {d' : D} {a : Addr}, U a → TopB F.K H' U d' a → SlotOk F.K H' U (s.upd d') (some (.ref a))) →
          (∃ a, σ[i] = some (.ref a) ∧ U a ∧ TopB F.K H U (.obj C fs) a) → ∀ d, fs.lookup f = some (.bx b d) → k d (fun d' => ρ.set i (s.upd (.obj C (putF' f (.bx b d') fs)))) → ∃ d up a, v = .ref a ∧ U a ∧ TopW F.K H U d a ∧ (∀ {d' : D} {o' : HO}, TopW F.K (upd H a o') U d' a → Rel F U (up d') σ (upd H a o') ∧ Stp ρ σ H (up d') (upd H a o')) ∧ k d up := by
        intro C fs e1 e2 e3 e4 e5 e6 ⟨a, ea, ua, dx, gs, g1, g2, g3⟩ d el hk
        obtain ⟨_, _, e7, ub, tb⟩ := g2.get el
        refine ⟨d, _, b, q, ub, tb, fun {d' o'} t' => ?_, hk⟩
        have hne : a ≠ b := fun z => (List.nodup_cons.mp g3).1 (by rw [z]; exact lookup_bxs el)
        have hbx : bxsF (putF' f (.bx b d') fs) = bxsF fs := bxsF_put el
        refine R.writeSX (a := a) hs e2 (hσ.trans (by rw [ea])) ⟨e2, .inr (by rw [e3]; exact lookup_bxs el)⟩ (fun y hy => ?_) (e6 ua ⟨dx, gs, by rw [upd_ne hne]; exact g1, g2.write t' ub (List.nodup_cons.mp g3).2 el, by rw [hbx]; exact g3⟩)
        rw [e5] at hy
        rw [e3, ← hbx]; exact hy
      cases s with
      | owb dd =>
        cases dd with
        | obj C fs =>
          have h : (match fs.lookup f with | some (.bx b' d) => b' = b ∧ k d (fun d' => ρ.set i (.owb (.obj C (putF' f (.bx b d') fs)))) | _ => False) := h
          cases el : fs.lookup f with
          | none => rw [el] at h; exact h.elim
          | some x =>
            rw [el] at h
            cases x with
            | bx b' d =>
              obtain ⟨rfl, h⟩ := h
              exact go C fs rfl rfl rfl rfl (fun _ => rfl) (fun u t => ⟨_, rfl, u, t⟩) z d el h
            | _ => exact h.elim
        | _ => exact h.elim
      | pab dd =>
        cases dd with
        | obj C fs =>
          have h : (match fs.lookup f with | some (.bx b' d) => b' = b ∧ k d (fun d' => ρ.set i (.pab (.obj C (putF' f (.bx b d') fs)))) | _ => False) := h
          cases el : fs.lookup f with
          | none => rw [el] at h; exact h.elim
          | some x =>
            rw [el] at h
            cases x with
            | bx b' d =>
              obtain ⟨rfl, h⟩ := h
              exact go C fs rfl rfl rfl rfl (fun _ => rfl) (fun u t => ⟨_, rfl, u, t⟩) z d el h
            | _ => exact h.elim
        | _ => exact h.elim
      | _ => exact h.elim
theorem pres_w (R : Rel F U ρ σ H) {a : Addr} {o' : HO} (u : U a) : Pres H U (upd H a o') U := fun x o h n =>
  ⟨by rw [upd_ne (fun e => n (by rw [e]; exact u))]; exact h, n⟩
theorem topW_lst {a : Addr} {ds : List D} (t : TopW K H U (.lst ds) a) : ∃ vs, H a = some (.lst vs) ∧ RpAll K H U ds vs := t
/-- a list of an owned slot gets other items -/
theorem lstW (R : Rel F U ρ σ H) {a : Addr} (u : U a) {ds : List D} {vs : List V} (r : RpAll F.K H U ds vs) : TopW F.K (upd H a (.lst vs)) U (.lst ds) a :=
  ⟨vs, upd_same, RpAll.pres (pres_w R u) ds vs r⟩

/-! ### methods -/
abbrev M3 := Rs → List Rs → En → (Rs → En → Prop) → Prop
def SimM (K : PySem.W.Frag) (r2 : V → List V → Hp → VK → Prop) (m3 : M3) : Prop :=
  ∀ (F : Fr) (U : US) (ρ : En) (σ : St) (H : Hp) (x : V) (vs : List V) (rx : Rs) (rs : List Rs) (Q3 : Rs → En → Prop) (Q2 : VK), F.K = K → Rel F U ρ σ H → RV F U σ H rx x → RVs F U σ H rs vs → m3 rx rs ρ Q3 → KE F U ρ σ H Q3 Q2 → r2 x vs H Q2
def D.isT (T : String) : D → Bool
  | .str _ => T == "str"
  | .lst _ => T == "list"
  | _ => false
def eBM (T : String) (m3 : M3) (f : T3E) (g : T3A) : T3E := fun ρ Q => f ρ fun r ρ1 => wd r ρ1 fun d => d.isT T = true ∧ g ρ1 fun rs ρ2 => m3 r rs ρ2 Q
def eBM0 (T : String) (m3 : M3) (f : T3E) : T3E := fun ρ Q => f ρ fun r ρ1 => wd r ρ1 fun d => d.isT T = true ∧ m3 r [] ρ1 Q
theorem rvN : RV F U σ H (.val .non) .non := rp_non (K := F.K) (H := H) (U := U)
theorem rvI {i : Int} : RV F U σ H (.val (.int i)) (.int i) := rp_int (K := F.K) (H := H) (U := U)
theorem rvB {i : Bool} : RV F U σ H (.val (.bl i)) (.bl i) := rp_bl (K := F.K) (H := H) (U := U)
theorem tyV_of (R : Rel F U ρ σ H) {r : Rs} {v : V} {d : D} {T : String} (q : RV F U σ H r v) (e : r.dat ρ = some d) (h : d.isT T = true) : tyV F.K T v H := by
  cases d <;> first | cases h | skip
  · rw [q.str R e]; exact (by simpa [D.isT] using h : T = "str")
  · obtain ⟨a, vs, rfl, z1, z2⟩ := q.lst R e
    exact .inl ⟨by simpa [D.isT] using h, vs, z1⟩
theorem simBM {T : String} {r2 : V → List V → Hp → VK → Prop} {m3 : M3} {t : TE} {u : TA} {f : T3E} {g : T3A} (hm : SimM K r2 m3) (h : SimE K t f) (h' : SimA K u g) : SimE K (tBM K T r2 t u) (eBM T m3 f g) := by
  intro F U ρ σ H Q3 Q2 e R q k
  refine h F U ρ σ H _ _ e R q fun r v ρ1 H1 R1 s1 q1 h1 => ?_
  obtain ⟨d, ed, ht, h1⟩ := wd_out h1
  refine ⟨by rw [← e]; exact tyV_of R1 q1 ed ht, h' F U ρ1 σ H1 _ _ e R1 h1 fun rs vs ρ2 H2 R2 s2 q2 h2 => ?_⟩
  exact hm F U ρ2 σ H2 v vs r rs _ _ e R2 (q1.pres (s2.pres R1)) q2 h2 fun r w ρ3 H3 R3 s3 q3 h3 => k r w ρ3 H3 R3 ((s1.trans s2).trans s3) q3 h3
theorem simBM0 {T : String} {r2 : V → List V → Hp → VK → Prop} {m3 : M3} {t : TE} {f : T3E} (hm : SimM K r2 m3) (h : SimE K t f) : SimE K (tBM0 K T r2 t) (eBM0 T m3 f) := by
  intro F U ρ σ H Q3 Q2 e R q k
  refine h F U ρ σ H _ _ e R q fun r v ρ1 H1 R1 s1 q1 h1 => ?_
  obtain ⟨d, ed, ht, h1⟩ := wd_out h1
  refine ⟨by rw [← e]; exact tyV_of R1 q1 ed ht, ?_⟩
  exact hm F U ρ1 σ H1 v [] r [] _ _ e R1 q1 .nil h1 fun r w ρ3 H3 R3 s3 q3 h3 => k r w ρ3 H3 R3 (s1.trans s3) q3 h3
def v1 (rs : List Rs) (k : D → Prop) : Prop := match rs with
  | [.val d] => k d
  | _ => False
theorem v1_out {rs : List Rs} {vs : List V} {k : D → Prop} (q : RVs F U σ H rs vs) (h : v1 rs k) : ∃ d v, vs = [v] ∧ Rp F.K H U d v ∧ k d := by
  unfold v1 at h
  split at h
  · rename_i d
    cases q with
    | cons q1 qs => cases qs; exact ⟨d, _, rfl, q1, h⟩
  · exact h.elim
def mAppend : M3 := fun r rs ρ Q => v1 rs fun d => ww r ρ fun dl up => match dl with
  | .lst ds => ds.length < sizeLine ∧ Q (.val .non) (up (.lst (ds ++ [d])))
  | _ => False
theorem simAppend : SimM K rAppend mAppend := by
  intro F U ρ σ H x vs rx rs Q3 Q2 e R q qs h k
  obtain ⟨d, v, rfl, rd, h⟩ := v1_out qs h
  obtain ⟨dl, up, a, rfl, u, t, wr, h⟩ := ww_out R q h
  cases dl <;> first | exact h.elim | skip
  rename_i ds
  obtain ⟨ws, z1, z2⟩ := t
  obtain ⟨R', S'⟩ := wr (lstW R u (z2.app (.one rd)))
  exact ⟨a, ws, v, rfl, rfl, z1, by rw [z2.len]; exact h.1, k (.val .non) .non _ _ R' S' rvN h.2⟩
def mPop : M3 := fun r rs ρ Q => match rs with
  | [] => ww r ρ fun dl up => match dl with
    | .lst ds => wo ds[ds.length - 1]? fun d => Q (.val d) (up (.lst ds.dropLast))
    | _ => False
  | _ => False
theorem simPop : SimM K rPop mPop := by
  intro F U ρ σ H x vs rx rs Q3 Q2 e R q qs h k
  unfold mPop at h
  cases qs with
  | cons _ _ => exact h.elim
  | nil =>
    obtain ⟨dl, up, a, rfl, u, t, wr, h⟩ := ww_out R q h
    cases dl <;> first | exact h.elim | skip
    rename_i ds
    obtain ⟨d, ed, h⟩ := wo_out h
    obtain ⟨ws, z1, z2⟩ := t
    obtain ⟨w, hw, rw'⟩ := z2.get ed
    obtain ⟨R', S'⟩ := wr (lstW R u z2.dropLast)
    exact ⟨a, ws, w, rfl, rfl, z1, by rw [z2.len]; exact hw, k (.val d) w _ _ R' S' (Rp.pres (pres_w R u) _ _ rw') h⟩
def mPopAt : M3 := fun r rs ρ Q => match rs with
  | [x] => wd x ρ fun di => match di with
    | .int i => ww r ρ fun dl up => match dl with
      | .lst ds => wo (ixN ds.length i) fun j => (-(2 ^ 63) ≤ i ∧ i < 2 ^ 63) ∧ wo ds[j]? fun d => Q (.val d) (up (.lst (ds.eraseIdx j)))
      | _ => False
    | _ => False
  | _ => False
theorem simPopAt : SimM K rPopAt mPopAt := by
  intro F U ρ σ H x vs rx rs Q3 Q2 e R q qs h k
  unfold mPopAt at h
  cases qs with
  | nil => exact h.elim
  | cons q1 qs =>
    cases qs with
    | cons _ _ => exact h.elim
    | nil =>
      obtain ⟨di, ei, h⟩ := wd_out h
      cases di <;> first | exact h.elim | skip
      rename_i j
      obtain ⟨dl, up, a, rfl, u, t, wr, h⟩ := ww_out R q h
      cases dl <;> first | exact h.elim | skip
      rename_i ds
      obtain ⟨jj, ej, ⟨b1, b2⟩, h⟩ := wo_out h
      obtain ⟨d, ed, h⟩ := wo_out h
      obtain ⟨ws, z1, z2⟩ := t
      obtain ⟨w, hw, rw'⟩ := z2.get ed
      obtain ⟨R', S'⟩ := wr (lstW R u (z2.erase jj))
      exact ⟨a, ws, j, jj, w, rfl, by rw [q1.int R ei], z1, b1, b2, by rw [z2.len]; exact (ixN_seq ej).1, hw, k (.val d) w _ _ R' S' (Rp.pres (pres_w R u) _ _ rw') h⟩
def mInsert : M3 := fun r rs ρ Q => match rs with
  | [x, .val d] => wd x ρ fun di => match di with
    | .int i => ww r ρ fun dl up => match dl with
      | .lst ds => (ds.length < sizeLine ∧ 0 ≤ i ∧ i < 2 ^ 63) ∧ Q (.val .non) (up (.lst (ds.take i.toNat ++ [d] ++ ds.drop i.toNat)))
      | _ => False
    | _ => False
  | _ => False
theorem simInsert : SimM K (fun x vs H Q => ∃ (l : Addr) (xs : List V) (i : Int) (y : V), x = .ref l ∧ vs = [.int i, y] ∧ H l = some (.lst xs) ∧ xs.length < sizeLine ∧ 0 ≤ i ∧ i < 2 ^ 63 ∧
    Q .non (upd H l (.lst (xs.take i.toNat ++ [y] ++ xs.drop i.toNat)))) mInsert := by
  intro F U ρ σ H x vs rx rs Q3 Q2 e R q qs h k
  unfold mInsert at h
  split at h
  · rename_i x d
    cases qs with
    | cons q1 qs =>
      cases qs with
      | cons q2 qs =>
        cases qs
        obtain ⟨di, ei, h⟩ := wd_out h
        cases di <;> first | exact h.elim | skip
        rename_i j
        obtain ⟨dl, up, a, rfl, u, t, wr, h⟩ := ww_out R q h
        cases dl <;> first | exact h.elim | skip
        rename_i ds
        obtain ⟨ws, z1, z2⟩ := t
        obtain ⟨R', S'⟩ := wr (lstW R u (((z2.take j.toNat).app (.one q2)).app (z2.drop j.toNat)))
        exact ⟨a, ws, j, _, rfl, by rw [q1.int R ei], z1, by rw [z2.len]; exact h.1.1, h.1.2.1, h.1.2.2, k (.val .non) _ _ _ R' S' rvN h.2⟩
  · exact h.elim
def mExtend : M3 := fun r rs ρ Q => match rs with
  | [x] => wn x ρ fun dx => match dx with
    | .lst es => ww r ρ fun dl up => match dl with
      | .lst ds => ds.length + es.length ≤ sizeLine ∧ Q (.val .non) (up (.lst (ds ++ es)))
      | _ => False
    | _ => False
  | _ => False
theorem simExtend : SimM K rExtend mExtend := by
  intro F U ρ σ H x vs rx rs Q3 Q2 e R q qs h k
  unfold mExtend at h
  cases qs with
  | nil => exact h.elim
  | cons q1 qs =>
    cases qs with
    | cons _ _ => exact h.elim
    | nil =>
      obtain ⟨di, ei, h⟩ := wn_out h
      cases di <;> first | exact h.elim | skip
      rename_i es
      obtain ⟨dl, up, a, rfl, u, t, wr, h⟩ := ww_out R q h
      cases dl <;> first | exact h.elim | skip
      rename_i ds
      obtain ⟨ws, z1, z2⟩ := t
      obtain ⟨b, zs, rfl, y1, y2⟩ := q1.lstN R ei
      obtain ⟨R', S'⟩ := wr (lstW R u (z2.app y2))
      exact ⟨a, b, ws, zs, rfl, rfl, z1, y1, by rw [z2.len, y2.len]; exact h.1, k (.val .non) _ _ _ R' S' rvN h.2⟩
def mClear : M3 := fun r rs ρ Q => match rs with
  | [] => ww r ρ fun dl up => match dl with
    | .lst ds => Q (.val .non) (up (.lst []))
    | _ => False
  | _ => False
theorem simClear : SimM K rClear mClear := by
  intro F U ρ σ H x vs rx rs Q3 Q2 e R q qs h k
  unfold mClear at h
  cases qs with
  | cons _ _ => exact h.elim
  | nil =>
    obtain ⟨dl, up, a, rfl, u, t, wr, h⟩ := ww_out R q h
    cases dl <;> first | exact h.elim | skip
    obtain ⟨ws, z1, z2⟩ := t
    obtain ⟨R', S'⟩ := wr (lstW R u (ds := []) (vs := []) (by simp only [RpAll]))
    exact ⟨a, ws, rfl, rfl, z1, k (.val .non) _ _ _ R' S' rvN h⟩
/-- xs.count(an int), xs a list of ints -/
def D.intsOf : List D → Option (List Int)
  | [] => some []
  | .int i :: ds => (D.intsOf ds).map (i :: ·)
  | _ :: _ => none
theorem intsOf_out : ∀ {ds : List D} {ns : List Int}, D.intsOf ds = some ns → ds = ns.map D.int
  | [], ns, h => by cases h; rfl
  | d :: ds, ns, h => by
    cases d <;> first | (cases h; done) | skip
    have h : (D.intsOf ds).map _ = some ns := h
    cases e : D.intsOf ds with
    | none => rw [e] at h; cases h
    | some r => rw [e] at h; cases h; rw [intsOf_out e]; rfl
theorem intsOf_map : ∀ ns : List Int, D.intsOf (ns.map D.int) = some ns
  | [] => rfl
  | n :: ns => by show (D.intsOf (ns.map D.int)).map _ = _; rw [intsOf_map ns]; rfl
def mCount : M3 := fun r rs ρ Q => match rs with
  | [x] => wd x ρ fun dx => match dx with
    | .int j => wd r ρ fun dl => match dl with
      | .lst ds => wo (D.intsOf ds) fun ns => Q (.val (.int (ns.count j : Nat))) ρ
      | _ => False
    | _ => False
  | _ => False
theorem simCount : SimM K (rCntI K) mCount := by
  intro F U ρ σ H x vs rx rs Q3 Q2 e R q qs h k
  unfold mCount at h
  subst e
  cases qs with
  | nil => exact h.elim
  | cons q1 qs =>
    cases qs with
    | cons _ _ => exact h.elim
    | nil =>
      obtain ⟨di, ei, h⟩ := wd_out h
      cases di <;> first | exact h.elim | skip
      rename_i j
      obtain ⟨dl, el, h⟩ := wd_out h
      cases dl <;> first | exact h.elim | skip
      rename_i ds
      obtain ⟨ns, en, h⟩ := wo_out h
      obtain ⟨a, ws, rfl, z1, z2⟩ := q.lst R el
      rw [intsOf_out en] at z2
      have := z2.ints
      subst this
      exact ⟨a, ns, j, rfl, by rw [q1.int R ei], z1, k (.val _) _ _ _ R (.refl R) rvI h⟩
/-- text methods that need no heap -/
def mS2 (g : Str → Str → D) : M3 := fun r rs ρ Q => match rs with
  | [x] => wd x ρ fun dx => wd r ρ fun dr => match dr, dx with
    | .str a, .str b => Q (.val (g a b)) ρ
    | _, _ => False
  | _ => False
theorem simS2 {g : Str → Str → V} {g3 : Str → Str → D} (hg : ∀ a b H U, Rp K H U (g3 a b) (g a b)) : SimM K (fun x xs H Q => ∃ a b, x = .str a ∧ xs = [.str b] ∧ Q (g a b) H) (mS2 g3) := by
  intro F U ρ σ H x vs rx rs Q3 Q2 e R q qs h k
  unfold mS2 at h
  cases qs with
  | nil => exact h.elim
  | cons q1 qs =>
    cases qs with
    | cons _ _ => exact h.elim
    | nil =>
      obtain ⟨dx, ex, h⟩ := wd_out h
      obtain ⟨dr, er, h⟩ := wd_out h
      cases dr <;> first | exact h.elim | skip
      cases dx <;> first | exact h.elim | skip
      exact ⟨_, _, q.str R er, by rw [q1.str R ex], k (.val _) _ _ _ R (.refl R) (show Rp F.K H U _ _ by rw [e]; exact hg _ _ H U) h⟩
/-- sep.join(a list or a tuple of texts) -/
def D.strsOf : List D → Option (List Str)
  | [] => some []
  | .str i :: ds => (D.strsOf ds).map (i :: ·)
  | _ :: _ => none
theorem strsOf_out : ∀ {ds : List D} {ns : List Str}, D.strsOf ds = some ns → ds = ns.map D.str
  | [], ns, h => by cases h; rfl
  | d :: ds, ns, h => by
    cases d <;> first | (cases h; done) | skip
    have h : (D.strsOf ds).map _ = some ns := h
    cases e : D.strsOf ds with
    | none => rw [e] at h; cases h
    | some r => rw [e] at h; cases h; rw [strsOf_out e]; rfl
theorem strsOf_map : ∀ ns : List Str, D.strsOf (ns.map D.str) = some ns
  | [] => rfl
  | n :: ns => by show (D.strsOf (ns.map D.str)).map _ = _; rw [strsOf_map ns]; rfl

/-! ### stores -/
/-- o[i] = e, o an owned list -/
def sPut (f fo fi : T3E) : T3S := fun E ρ => f ρ fun r ρ1 => fo ρ1 fun o ρ2 => fi ρ2 fun i ρ3 => match r with
  | .val d => wd i ρ3 fun di => match di with
    | .int n => ww o ρ3 fun dl up => match dl with
      | .lst ds => wo (ixN ds.length n) fun j => E.nx (up (.lst (ds.set j d)))
      | _ => False
    | _ => False
  | _ => False
theorem simPut {t to ti : TE} {f fo fi : T3E} (h : SimE K t f) (ho : SimE K to fo) (hi : SimE K ti fi) : SimS K (tAsg t (gSub to ti rSetL)) (sPut f fo fi) := by
  intro F U ρ σ H D3 D2 e R q k
  refine h F U ρ σ H _ _ e R q fun r v ρ1 H1 R1 s1 q1 h1 => ?_
  refine ho F U ρ1 σ H1 _ _ e R1 h1 fun o vo ρ2 H2 R2 s2 q2 h2 => ?_
  refine hi F U ρ2 σ H2 _ _ e R2 h2 fun i vi ρ3 H3 R3 s3 q3 h3 => ?_
  cases r with
  | sl _ => exact h3.elim
  | bx _ _ _ => exact h3.elim
  | val d =>
    obtain ⟨di, ei, h3⟩ := wd_out h3
    cases di <;> first | exact h3.elim | skip
    rename_i n
    obtain ⟨dl, up, a, rfl, u, t', wr, h3⟩ := ww_out R3 (q2.pres (s3.pres R2)) h3
    cases dl <;> first | exact h3.elim | skip
    rename_i ds
    obtain ⟨j, ej, h3⟩ := wo_out h3
    obtain ⟨ws, z1, z2⟩ := t'
    have rd : Rp F.K H3 U d v := Rp.pres (s3.pres R2) _ _ (Rp.pres (s2.pres R1) _ _ q1)
    obtain ⟨R', S'⟩ := wr (lstW R3 u (z2.set j rd))
    exact ⟨a, ws, n, j, rfl, q3.int R3 ei, z1, by rw [z2.len]; exact ej, k.nx _ _ _ _ R' h3⟩

/-! ### dicts with keys that are ints and texts -/
def D.key : D → Option Key
  | .int i => some (.inl i)
  | .str s => some (.inr s)
  | _ => none
theorem key_out {d : D} {k : Key} (h : d.key = some k) {v : V} (r : Rp K H U d v) : v = kV k := by
  cases d <;> first | cases h | skip
  · simp only [Rp] at r; rw [r]; rfl
  · simp only [Rp] at r; rw [r]; rfl
def getD' (kvs : List (Key × D)) (k : Key) : Option D := (kvs.find? fun kv => decide (kv.1 = k)).map (·.2)
def putD (kvs : List (Key × D)) (k : Key) (d : D) : List (Key × D) :=
  if (kvs.any fun kv => decide (kv.1 = k)) = true then kvs.map (fun kv => if kv.1 = k then (kv.1, d) else kv) else kvs ++ [(k, d)]
theorem RpK.get : ∀ {ds : List (Key × D)} {vs : List (Key × V)} (k : Key), RpK K H U ds vs → (getD' ds k = none ∧ valV vs k = none) ∨ ∃ d v, getD' ds k = some d ∧ valV vs k = some v ∧ Rp K H U d v
  | [], _, k, h => by simp only [RpK] at h; subst h; exact .inl ⟨rfl, rfl⟩
  | (k', d) :: ds, _, k, h => by
    simp only [RpK] at h
    obtain ⟨v, r, rfl, h1, h2⟩ := h
    by_cases e : k' = k
    · exact .inr ⟨d, v, by simp [getD', List.find?_cons, e], by simp [valV, List.find?_cons, e], h1⟩
    · have a : getD' ((k', d) :: ds) k = getD' ds k := by simp [getD', List.find?_cons, e]
      have b : valV ((k', v) :: r) k = valV r k := by simp [valV, List.find?_cons, e]
      rw [a, b]
      exact RpK.get k h2
theorem RpK.any : ∀ {ds : List (Key × D)} {vs : List (Key × V)} (k : Key), RpK K H U ds vs → (ds.any fun kv => decide (kv.1 = k)) = (vs.any fun kv => decide (kv.1 = k))
  | [], _, k, h => by simp only [RpK] at h; subst h; rfl
  | (k', d) :: ds, _, k, h => by
    simp only [RpK] at h
    obtain ⟨v, r, rfl, h1, h2⟩ := h
    rw [List.any_cons, List.any_cons, RpK.any k h2]
theorem RpK.map : ∀ {ds : List (Key × D)} {vs : List (Key × V)} (k : Key) {d : D} {v : V}, RpK K H U ds vs → Rp K H U d v → RpK K H U (ds.map fun kv => if kv.1 = k then (kv.1, d) else kv) (vs.map fun kv => if kv.1 = k then (kv.1, v) else kv)
  | [], _, k, d, v, h, _ => by simp only [RpK] at h; subst h; simp only [List.map_nil, RpK]
  | (k', d') :: ds, _, k, d, v, h, q => by
    simp only [RpK] at h
    obtain ⟨v', r, rfl, h1, h2⟩ := h
    rw [List.map_cons, List.map_cons]
    by_cases e : k' = k
    · rw [if_pos e, if_pos e]
      simp only [RpK]
      exact ⟨v, _, rfl, q, RpK.map k h2 q⟩
    · rw [if_neg e, if_neg e]
      simp only [RpK]
      exact ⟨v', _, rfl, h1, RpK.map k h2 q⟩
theorem RpK.snoc : ∀ {ds : List (Key × D)} {vs : List (Key × V)} (k : Key) {d : D} {v : V}, RpK K H U ds vs → Rp K H U d v → RpK K H U (ds ++ [(k, d)]) (vs ++ [(k, v)])
  | [], _, k, d, v, h, q => by simp only [RpK] at h; subst h; simp only [List.nil_append, RpK]; exact ⟨v, [], rfl, q, rfl⟩
  | (k', d') :: ds, _, k, d, v, h, q => by
    simp only [RpK] at h
    obtain ⟨v', r, rfl, h1, h2⟩ := h
    simp only [List.cons_append, RpK]
    exact ⟨v', _, rfl, h1, RpK.snoc k h2 q⟩
theorem RpK.put {ds : List (Key × D)} {vs : List (Key × V)} (k : Key) {d : D} {v : V} (h : RpK K H U ds vs) (q : Rp K H U d v) : RpK K H U (putD ds k d) (putK vs k v) := by
  unfold putD putK
  rw [RpK.any k h]
  by_cases e : (vs.any fun kv => decide (kv.1 = k)) = true
  · rw [if_pos e, if_pos e]; exact RpK.map k h q
  · rw [if_neg e, if_neg e]; exact RpK.snoc k h q
theorem RpK.len : ∀ {ds : List (Key × D)} {vs : List (Key × V)}, RpK K H U ds vs → vs.length = ds.length
  | [], _, h => by simp only [RpK] at h; rw [h]; rfl
  | (k, d) :: ds, _, h => by
    simp only [RpK] at h
    obtain ⟨v, r, rfl, _, h2⟩ := h
    rw [List.length_cons, List.length_cons, RpK.len h2]
theorem RV.dic (R : Rel F U ρ σ H) {r : Rs} {v : V} {ds : List (Key × D)} (h : RV F U σ H r v) (e : r.dat ρ = some (.dic ds)) : ∃ a vs, v = .ref a ∧ Rd H a (.dK vs) ∧ RpK F.K H U ds vs := by
  rcases h.get R e with q | ⟨a, e, vs, q1, q2⟩
  · simp only [Rp] at q
    obtain ⟨a, vs, e, h1, _, h2⟩ := q
    exact ⟨a, vs, e, h1, h2⟩
  · exact ⟨a, vs, e, q1, q2⟩
/-- the dict and the key -/
def wdk (x y : Rs) (ρ : En) (k : List (Key × D) → Key → Prop) : Prop := wd x ρ fun dx => wd y ρ fun dy => match dx with
  | .dic kvs => wo dy.key fun j => k kvs j
  | _ => False
theorem wdk_out (R : Rel F U ρ σ H) {x y : Rs} {v w : V} {k : List (Key × D) → Key → Prop} (hx : RV F U σ H x v) (hy : RV F U σ H y w) (h : wdk x y ρ k) :
    ∃ a kvs vs j, v = .ref a ∧ Rd H a (.dK vs) ∧ RpK F.K H U kvs vs ∧ w = kV j ∧ k kvs j := by
  obtain ⟨dx, ex, h1⟩ := wd_out h
  obtain ⟨dy, ey, h2⟩ := wd_out h1
  clear h h1
  cases dx <;> first | exact h2.elim | skip
  rename_i kvs
  obtain ⟨j, ej, h⟩ := wo_out h2
  obtain ⟨a, vs, rfl, z1, z2⟩ := hx.dic R ex
  have : w = kV j := by
    cases dy <;> first | cases ej | skip
    · rw [hy.int R ey]; rfl
    · rw [hy.str R ey]; rfl
  exact ⟨a, kvs, vs, j, rfl, z1, z2, this, h⟩
/-- d[k] -/
def eDGet (fd fy : T3E) : T3E := fun ρ Q => fd ρ fun x ρ1 => fy ρ1 fun y ρ2 => wdk x y ρ2 fun kvs k => wo (getD' kvs k) fun d => Q (.val d) ρ2
theorem simDGet {td ty : TE} {fd fy : T3E} (h : SimE K td fd) (h' : SimE K ty fy) : SimE K (tDGet td ty) (eDGet fd fy) := by
  intro F U ρ σ H Q3 Q2 e R q k
  refine h F U ρ σ H _ _ e R q fun x v ρ1 H1 R1 s1 q1 h1 => ?_
  refine h' F U ρ1 σ H1 _ _ e R1 h1 fun y w ρ2 H2 R2 s2 q2 h2 => ?_
  obtain ⟨a, kvs, vs, j, rfl, z1, z2, rfl, h2⟩ := wdk_out R2 (q1.pres (s2.pres R1)) q2 h2
  obtain ⟨d, ed, h2⟩ := wo_out h2
  rcases z2.get j with ⟨n, _⟩ | ⟨d', v', n, ev, rv⟩
  · rw [n] at ed; cases ed
  · rw [n] at ed; cases ed
    exact ⟨a, v', rfl, .inl ⟨vs, j, z1, rfl, ev.symm⟩, k (.val d) v' ρ2 H2 R2 (s1.trans s2) rv h2⟩
def fDIn (neg : Bool) (fy fd : T3E) : T3E := fun ρ Q => fy ρ fun y ρ1 => fd ρ1 fun x ρ2 => wdk x y ρ2 fun kvs k => Q (.val (.bl (if neg then !(getD' kvs k).isSome else (getD' kvs k).isSome))) ρ2
theorem simDIn0 (neg : Bool) {td ty : TE} {fd fy : T3E} (h : SimE K td fd) (h' : SimE K ty fy) : SimE K (fun σ H Q => ty σ H fun y H1 => td σ H1 fun x H2 => ∃ a o, x = .ref a ∧ DGet H2 a y o ∧ Q (.bl (if neg then !o.isSome else o.isSome)) H2) (fDIn neg fy fd) := by
  intro F U ρ σ H Q3 Q2 e R q k
  refine h' F U ρ σ H _ _ e R q fun y w ρ1 H1 R1 s1 q1 h1 => ?_
  refine h F U ρ1 σ H1 _ _ e R1 h1 fun x v ρ2 H2 R2 s2 q2 h2 => ?_
  obtain ⟨a, kvs, vs, j, rfl, z1, z2, rfl, h2⟩ := wdk_out R2 q2 (q1.pres (s2.pres R1)) h2
  refine ⟨a, valV vs j, rfl, .inl ⟨vs, j, z1, rfl, rfl⟩, k (.val _) _ ρ2 H2 R2 (s1.trans s2) rvB ?_⟩
  rcases z2.get j with ⟨n, n'⟩ | ⟨d', v', n, ev, rv⟩
  · rw [n] at h2; rw [n']; exact h2
  · rw [n] at h2; rw [ev]; exact h2
theorem simDIn {td ty : TE} {fd fy : T3E} (h : SimE K td fd) (h' : SimE K ty fy) : SimE K (tDIn ty td) (fDIn false fy fd) := simDIn0 false h h'
theorem simDNotIn {td ty : TE} {fd fy : T3E} (h : SimE K td fd) (h' : SimE K ty fy) : SimE K (tDNotIn ty td) (fDIn true fy fd) := simDIn0 true h h'
/-- d.get(k, x) -/
def eDGet2 (fd fy fx : T3E) : T3E := fun ρ Q => fd ρ fun x ρ1 => wn x ρ1 fun dx => match dx with
  | .dic _ => fy ρ1 fun y ρ2 => fx ρ2 fun z ρ3 => match z with
    | .val dz => wdk x y ρ3 fun kvs k => Q (.val ((getD' kvs k).getD dz)) ρ3
    | _ => False
  | _ => False
theorem isD_of (R : Rel F U ρ σ H) {r : Rs} {v : V} {ds : List (Key × D)} (q : RV F U σ H r v) (e : r.datN ρ = some (.dic ds)) : ∃ a, v = .ref a ∧ ∃ vs, Rd H a (.dK vs) := by
  rcases q.getN R e with q | ⟨a, e, vs, q1, q2⟩
  · simp only [Rp] at q
    obtain ⟨a, vs, e, h1, _, h2⟩ := q
    exact ⟨a, e, vs, h1⟩
  · exact ⟨a, e, vs, .inl q1⟩
/-- d[k] = e, d an owned dict -/
def sDPutD (f fd fy : T3E) : T3S := fun E ρ => f ρ fun r ρ1 => fd ρ1 fun x ρ2 => fy ρ2 fun y ρ3 => match r with
  | .val d => wd y ρ3 fun dy => wo dy.key fun j => ww x ρ3 fun dx up => match dx with
    | .dic kvs => kvs.length < sizeLine ∧ E.nx (up (.dic (putD kvs j d)))
    | _ => False
  | _ => False
theorem simDPut {t td ty : TE} {f fd fy : T3E} (h : SimE K t f) (hd : SimE K td fd) (hy : SimE K ty fy) : SimS K (sDPut td ty t) (sDPutD f fd fy) := by
  intro F U ρ σ H D3 D2 e R q k
  refine h F U ρ σ H _ _ e R q fun r v ρ1 H1 R1 s1 q1 h1 => ?_
  refine hd F U ρ1 σ H1 _ _ e R1 h1 fun o vo ρ2 H2 R2 s2 q2 h2 => ?_
  refine hy F U ρ2 σ H2 _ _ e R2 h2 fun i vi ρ3 H3 R3 s3 q3 h3 => ?_
  cases r with
  | sl _ => exact h3.elim
  | bx _ _ _ => exact h3.elim
  | val d =>
    obtain ⟨di, ei, h3⟩ := wd_out h3
    obtain ⟨j, ej, h3⟩ := wo_out h3
    obtain ⟨dl, up, a, rfl, u, t', wr, h3⟩ := ww_out R3 (q2.pres (s3.pres R2)) h3
    cases dl <;> first | exact h3.elim | skip
    rename_i kvs
    obtain ⟨vs, z1, z2⟩ := t'
    have rd : Rp F.K H3 U d v := Rp.pres (s3.pres R2) _ _ (Rp.pres (s2.pres R1) _ _ q1)
    have ek : vi = kV j := by
      cases di <;> first | cases ej | skip
      · rw [q3.int R3 ei]; rfl
      · rw [q3.str R3 ei]; rfl
    have z3 : RpK F.K (upd H3 a (.dK (putK vs j v))) U (putD kvs j d) (putK vs j v) := RpK.pres (pres_w R3 u) _ _ (z2.put j rd)
    obtain ⟨R', S'⟩ := wr (d' := .dic (putD kvs j d)) ⟨_, upd_same, z3⟩
    exact ⟨a, _, rfl, .inl ⟨vs, j, z1, ek, by rw [z2.len]; exact h3.1, rfl⟩, k.nx _ _ _ _ R' h3.2⟩
end
end L3

set_option Elab.async false
set_option linter.all false
set_option maxRecDepth 100000
namespace L3
open PySem PySem.Spec L2

/-! ### calls: how a parameter is handed: shared; read (lent); changed in place; the same with boxes -/
inductive Md where
  | shr | brw | par | pab
  deriving DecidableEq
def Md.isW : Md → Bool
  | .par => true
  | .pab => true
  | _ => false
def Md.sl : Md → D → Sl
  | .shr, d => .shr d
  | .brw, d => .brw d
  | .par, d => .par d
  | .pab, d => .pab d
def noPab : List Md → Bool
  | [] => true
  | .pab :: _ => false
  | _ :: ms => noPab ms
theorem sl_isW {m : Md} {d : D} : (m.sl d).isW = m.isW := by cases m <;> rfl
/-- which addresses a call may change -/
def Wm (ms : List Md) (ds : List D) (vs : List V) : US := fun x => ∃ (i : Nat) (m : Md) (d : D) (v : V), ms[i]? = some m ∧ ds[i]? = some d ∧ vs[i]? = some v ∧ (m.sl d).reg (some v) x
def ArgOk (K : PySem.W.Frag) (H : Hp) (U W : US) : Md → D → V → Prop
  | .shr, d, v => Rp K H U d v
  | .brw, d, v => Rp K H U d v ∨ ∃ a, v = .ref a ∧ TopR K H U d a ∧ ∀ x, d.reg a x → ¬ W x
  | .par, d, v => SlotOk K H U (.par d) (some v)
  | .pab, d, v => SlotOk K H U (.pab d) (some v)
def Apart (ms : List Md) (ds : List D) (vs : List V) : Prop := ∀ (i j : Nat) (m m' : Md) (d d' : D) (v v' : V) (x : Addr), ms[i]? = some m → ms[j]? = some m' → ds[i]? = some d → ds[j]? = some d' → vs[i]? = some v → vs[j]? = some v' → (m.sl d).reg (some v) x → (m'.sl d').reg (some v') x → i = j
structure ArgsOk (K : PySem.W.Frag) (H : Hp) (U : US) (ms : List Md) (ds : List D) (vs : List V) : Prop where
  l1 : ms.length = vs.length
  l2 : ds.length = vs.length
  ok : ∀ (i : Nat) (m : Md) (d : D) (v : V), ms[i]? = some m → ds[i]? = some d → vs[i]? = some v → ArgOk K H U (Wm ms ds vs) m d v
  inj : Apart ms ds vs
  tr : ∀ a, U a → ∃ o, H a = some o
/-- how a call leaves the heap -/
structure After (K : PySem.W.Frag) (H : Hp) (U : US) (ms : List Md) (ds : List D) (vs : List V) (H' : Hp) (U' : US) (ds' : List D) : Prop where
  len : ds'.length = vs.length
  keep : ∀ a o, H a = some o → ¬ Wm ms ds vs a → H' a = some o
  ktr : ∀ a o, H a = some o → ∃ o', H' a = some o'
  shar : ∀ a o, H a = some o → ¬ U a → ¬ U' a
  up : ∀ a, U a → ¬ Wm ms ds vs a → U' a
  tr : ∀ a, U' a → ∃ o, H' a = some o
  par : ∀ (i : Nat) (m : Md) (v : V) (d : D), ms[i]? = some m → m.isW = true → vs[i]? = some v → ds'[i]? = some d → SlotOk K H' U' (m.sl d) (some v)
  reg : ∀ x, Wm ms ds' vs x → Wm ms ds vs x ∨ H x = none
  inj : Apart ms ds' vs
abbrev S3 := List D → (D → List D → Prop) → (D → List D → Prop) → Prop
/-- a def's promise over data, as a promise over the heap -/
def Lift (K : PySem.W.Frag) (ms : List Md) (sp : S3) : Sp := fun vs H Q _ => ∃ (U : US) (ds : List D) (QR QO : D → List D → Prop), ArgsOk K H U ms ds vs ∧ sp ds QR QO ∧
  (∀ v H' U' d ds', After K H U ms ds vs H' U' ds' → Rp K H' U' d v → QR d ds' → Q v H') ∧
  (∀ a H' U' d ds', After K H U ms ds vs H' U' ds' → TopW K H' U' d a → U' a → H a = none → QO d ds' → Q (.ref a) H')

section
variable {F : Fr} {U U2 : US} {ρ ρ' ρ2 : En} {σ σ2 : St} {H H' H2 : Hp} {K : PySem.W.Frag}

/-! ### the callee's side -/
def slots : List Md → List D → En
  | m :: ms, d :: ds => m.sl d :: slots ms ds
  | _, _ => []
/-- n: how many names have no argument -/
def startE (n : Nat) (ms : List Md) (ds : List D) : En := slots ms ds ++ List.replicate n .emp
/-- what the changed parameters hold at the end -/
def fin : List Md → List D → En → Option (List D)
  | [], [], _ => some []
  | .par :: ms, _ :: ds, .par d :: ρ => (fin ms ds ρ).map (d :: ·)
  | .pab :: ms, _ :: ds, .pab d :: ρ => (fin ms ds ρ).map (d :: ·)
  | .shr :: ms, d :: ds, _ :: ρ => (fin ms ds ρ).map (d :: ·)
  | .brw :: ms, d :: ds, _ :: ρ => (fin ms ds ρ).map (d :: ·)
  | _, _, _ => none
def endE (ms : List Md) (ds : List D) (QR QO : D → List D → Prop) : E3 :=
  { nx := fun ρ => wo (fin ms ds ρ) fun ds' => QR .non ds', rt := fun d ρ => wo (fin ms ds ρ) fun ds' => QR d ds', ro := fun d ρ => match noPab ms with
    | true => wo (fin ms ds ρ) fun ds' => QO d ds'
    | false => False }
theorem slots_len : ∀ {ms : List Md} {ds : List D}, ms.length = ds.length → (slots ms ds).length = ds.length
  | [], [], _ => rfl
  | m :: ms, d :: ds, h => by show (slots ms ds).length + 1 = _; rw [slots_len (Nat.succ.inj h)]; rfl
  | [], _ :: _, h => nomatch h
  | _ :: _, [], h => nomatch h
theorem slots_get : ∀ {ms : List Md} {ds : List D} {i : Nat} {s : Sl}, (slots ms ds)[i]? = some s → ∃ m d, ms[i]? = some m ∧ ds[i]? = some d ∧ s = m.sl d
  | [], _, i, s, h => by simp [slots] at h
  | _ :: _, [], i, s, h => by simp [slots] at h
  | m :: ms, d :: ds, 0, s, h => by
    simp [slots] at h
    exact ⟨m, d, rfl, rfl, h.symm⟩
  | m :: ms, d :: ds, i + 1, s, h => by
    have h : (slots ms ds)[i]? = some s := by simpa [slots] using h
    obtain ⟨m', d', h1, h2, h3⟩ := slots_get h
    exact ⟨m', d', by simpa using h1, by simpa using h2, h3⟩
theorem startE_get {n : Nat} {ms : List Md} {ds : List D} (hl : ms.length = ds.length) {i : Nat} {s : Sl} (h : (startE n ms ds)[i]? = some s) : (s = .emp ∧ ds.length ≤ i) ∨ ∃ m d, ms[i]? = some m ∧ ds[i]? = some d ∧ s = m.sl d := by
  unfold startE at h
  by_cases hi : i < (slots ms ds).length
  · rw [List.getElem?_append_left hi] at h
    exact .inr (slots_get h)
  · rw [List.getElem?_append_right (by omega)] at h
    refine .inl ⟨?_, by rw [slots_len hl] at hi; omega⟩
    exact List.eq_of_mem_replicate (List.mem_of_getElem? h)
theorem start_get {N : List Str} {vs : List V} {i : Nat} {o : Option V} (h : (L2.start N vs)[i]? = some o) : (o = none ∧ vs.length ≤ i) ∨ ∃ v, o = some v ∧ vs[i]? = some v := by
  unfold L2.start at h
  by_cases hi : i < (vs.map some).length
  · rw [List.getElem?_append_left hi, List.getElem?_map] at h
    cases e : vs[i]? with
    | none => rw [e] at h; cases h
    | some v => rw [e] at h; exact .inr ⟨v, (Option.some.inj h).symm, rfl⟩
  · rw [List.getElem?_append_right (by omega)] at h
    exact .inl ⟨List.eq_of_mem_replicate (List.mem_of_getElem? h), by rw [List.length_map] at hi; omega⟩
theorem start_arg {N : List Str} {vs : List V} {i : Nat} {v : V} (h : vs[i]? = some v) : (L2.start N vs)[i]? = some (some v) := by
  unfold L2.start
  have hi : i < vs.length := (List.getElem?_eq_some_iff.mp h).1
  rw [List.getElem?_append_left (by rw [List.length_map]; exact hi), List.getElem?_map, h]; rfl
/-- the callee's frame -/
def frE (K : PySem.W.Frag) (H : Hp) (U : US) (ρ : En) (σ : St) : Fr := ⟨K, H, U, Own ρ σ, σ, fun i l => ∃ s : Sl, ρ[i]? = some s ∧ s.lk = some l⟩
theorem start_in {N : List Str} {n : Nat} {ms : List Md} {ds : List D} {vs : List V} (l1 : ms.length = vs.length) (l2 : ds.length = vs.length) {i : Nat} {s : Sl} {o : Option V} (h1 : (startE n ms ds)[i]? = some s) (h2 : (L2.start N vs)[i]? = some o) :
    s = .emp ∨ ∃ m d v, ms[i]? = some m ∧ ds[i]? = some d ∧ vs[i]? = some v ∧ s = m.sl d ∧ o = some v := by
  rcases startE_get (l1.trans l2.symm) h1 with ⟨rfl, _⟩ | ⟨m, d, g1, g2, rfl⟩
  · exact .inl rfl
  · rcases start_get h2 with ⟨_, z⟩ | ⟨v, z, z2⟩
    · have := (List.getElem?_eq_some_iff.mp g2).1
      omega
    · exact .inr ⟨m, d, v, g1, g2, z2, rfl, z⟩
theorem own_start {N : List Str} {n : Nat} {ms : List Md} {ds : List D} {vs : List V} (A : ArgsOk K H U ms ds vs) {a : Addr} (h : Own (startE n ms ds) (L2.start N vs) a) : Wm ms ds vs a := by
  obtain ⟨i, s, o, h1, h2, h3⟩ := h
  rcases start_in A.l1 A.l2 h1 h2 with rfl | ⟨m, d, v, g1, g2, g3, rfl, rfl⟩
  · exact absurd h3 (reg_noW rfl)
  · exact ⟨i, m, d, v, g1, g2, g3, h3⟩
theorem Rel.enter {N : List Str} {n : Nat} {ms : List Md} {ds : List D} {vs : List V} (A : ArgsOk K H U ms ds vs) (hn : N.length = vs.length + n) : Rel (frE K H U (startE n ms ds) (L2.start N vs)) U (startE n ms ds) (L2.start N vs) H := by
  have hl : ms.length = ds.length := A.l1.trans A.l2.symm
  have slot : ∀ (i : Nat) (s : Sl) (o : Option V), (startE n ms ds)[i]? = some s → (L2.start N vs)[i]? = some o → SlotOk K H U s o := fun i s o h1 h2 => by
    rcases start_in A.l1 A.l2 h1 h2 with rfl | ⟨m, d, v, g1, g2, g3, rfl, rfl⟩
    · trivial
    · have z := A.ok i m d v g1 g2 g3
      cases m with
      | shr => exact ⟨v, rfl, z⟩
      | brw => trivial
      | par => exact z
      | pab => exact z
  refine ⟨?_, slot, fun i d o h1 h2 => ?_, fun i j s t o o' x h1 h2 h3 h4 h5 h6 => ?_, A.tr, fun _ _ h _ => h, fun _ o h => ⟨o, h⟩, fun _ _ _ z => z, fun _ h _ => h, fun _ h => .inl h, fun i s l h q => ⟨⟨s, h, q⟩, rfl⟩, fun a h => ?_, fun j d h => ?_, A.tr⟩
  · unfold startE L2.start
    rw [List.length_append, List.length_append, List.length_replicate, List.length_replicate, List.length_map, slots_len hl, A.l2, hn]
    omega
  · rcases start_in A.l1 A.l2 h1 h2 with z | ⟨m, d', v, g1, g2, g3, z, rfl⟩
    · cases z
    · cases m <;> first | cases z | skip
      rcases A.ok i _ _ _ g1 g2 g3 with z3 | ⟨a, ea, t, nW⟩
      · exact .inl ⟨v, rfl, z3⟩
      · exact .inr ⟨a, by rw [ea], t, fun x hx q => nW x hx (own_start A q)⟩
  · rcases start_in A.l1 A.l2 h1 h3 with rfl | ⟨m, d, v, g1, g2, g3, rfl, rfl⟩
    · exact absurd h5 (reg_noW rfl)
    · rcases start_in A.l1 A.l2 h2 h4 with rfl | ⟨m', d', v', k1, k2, k3, rfl, rfl⟩
      · exact absurd h6 (reg_noW rfl)
      · exact A.inj i j m m' d d' v v' x g1 k1 g2 k2 g3 k3 h5 h6
  · obtain ⟨i, s, o, h1, h2, h3⟩ := h
    exact (slot i s o h1 h2).regU h3
  · obtain ⟨s, h1, h2⟩ := h
    rcases startE_get hl h1 with ⟨rfl, _⟩ | ⟨m, d', g1, g2, rfl⟩
    · cases h2
    · cases m <;> first | (cases h2; done) | skip
      cases h2
      have hj : j < vs.length := by
        have := (List.getElem?_eq_some_iff.mp g2).1
        have := A.l2
        omega
      have hv : vs[j]? = some vs[j] := List.getElem?_eq_getElem hj
      rcases A.ok j _ _ _ g1 g2 hv with z | ⟨a, ea, t, _⟩
      · exact .inl ⟨_, start_arg hv, z⟩
      · exact .inr ⟨a, by rw [← ea]; exact start_arg hv, t.some⟩
theorem fin_len : ∀ {ms : List Md} {ds : List D} {ρ : En} {ds' : List D}, fin ms ds ρ = some ds' → ds'.length = ds.length
  | [], [], _, _, h => by cases h; rfl
  | [], _ :: _, _, _, h => by simp [fin] at h
  | m :: ms, [], ρ, _, h => by cases m <;> simp [fin] at h
  | m :: ms, d :: ds, [], _, h => by cases m <;> simp [fin] at h
  | m :: ms, d :: ds, s :: ρ, ds', h => by
    have go : ∀ {d' : D}, (fin ms ds ρ).map (d' :: ·) = some ds' → ds'.length = (d :: ds).length := fun {d'} h => by
      obtain ⟨r, e, rfl⟩ := Option.map_eq_some_iff.mp h
      rw [List.length_cons, List.length_cons, fin_len e]
    cases m with
    | shr => exact go h
    | brw => exact go h
    | par => cases s <;> first | exact go h | (simp [fin] at h)
    | pab => cases s <;> first | exact go h | (simp [fin] at h)
theorem fin_par : ∀ {ms : List Md} {ds : List D} {ρ : En} {ds' : List D} {i : Nat} {m : Md} {d : D}, fin ms ds ρ = some ds' → ms[i]? = some m → m.isW = true → ds'[i]? = some d → ρ[i]? = some (m.sl d)
  | [], _, _, _, i, _, _, h, e, _, _ => by simp at e
  | m :: ms, [], ρ, _, _, _, _, h, _, _, _ => by cases m <;> simp [fin] at h
  | m :: ms, d :: ds, [], _, _, _, _, h, _, _, _ => by cases m <;> simp [fin] at h
  | m :: ms, d :: ds, s :: ρ, ds', 0, m', d', h, e, w, e' => by
    have e : m = m' := by simpa using e
    subst e
    cases m <;> first | (cases w; done) | skip
    all_goals
      cases s <;> first | (simp [fin] at h; done) | skip
      obtain ⟨r, _, rfl⟩ := Option.map_eq_some_iff.mp (show (fin ms ds ρ).map _ = some ds' from h)
      simp at e'
      subst e'
      rfl
  | m :: ms, d :: ds, s :: ρ, ds', i + 1, m', d', h, e, w, e' => by
    have go : ∀ {d0 : D}, (fin ms ds ρ).map (d0 :: ·) = some ds' → (s :: ρ)[i + 1]? = some (m'.sl d') := fun {d0} h => by
      obtain ⟨r, er, rfl⟩ := Option.map_eq_some_iff.mp h
      have := fin_par (i := i) er (by simpa using e) w (by simpa using e')
      simpa using this
    cases m with
    | shr => exact go h
    | brw => exact go h
    | par => cases s <;> first | exact go h | (simp [fin] at h)
    | pab => cases s <;> first | exact go h | (simp [fin] at h)
theorem lk_sl {m : Md} {d : D} (w : m.isW = true) : (m.sl d).lk = some none := by cases m <;> first | rfl | cases w
theorem Rel.leave {N : List Str} {n : Nat} {ms : List Md} {ds ds' : List D} {vs : List V} (A : ArgsOk K H U ms ds vs) {U' : US} (R : Rel (frE K H U (startE n ms ds) (L2.start N vs)) U' ρ σ H') (e : fin ms ds ρ = some ds') : After K H U ms ds vs H' U' ds' := by
  have at_ : ∀ {i : Nat} {m : Md} {d : D} {v : V}, ms[i]? = some m → m.isW = true → vs[i]? = some v → ds'[i]? = some d → ρ[i]? = some (m.sl d) ∧ σ[i]? = some (some v) := fun {i m d v} h1 w h2 h3 => by
    have hp := fin_par e h1 w h3
    obtain ⟨_, el⟩ := R.lock i _ _ hp (lk_sl w)
    exact ⟨hp, el.trans (start_arg h2)⟩
  refine ⟨(fin_len e).trans A.l2, fun a o h n => R.keep a o h fun z => n (own_start A z), fun a o h => R.ktr a o h, fun a o h n => R.shar a o h n, fun a h n => R.up a h fun z => n (own_start A z), R.tr, fun i m v d h1 w h2 h3 => ?_, fun x ⟨i, m, d, v, h1, h2, h3, h4⟩ => ?_, fun i j m m' d d' v v' x h1 h2 h3 h4 h5 h6 h7 h8 => ?_⟩
  · obtain ⟨p1, p2⟩ := at_ h1 w h2 h3
    exact R.slot i _ _ p1 p2
  · obtain ⟨p1, p2⟩ := at_ h1 (sl_isW.symm.trans h4.1) h3 h2
    rcases R.new x ⟨i, _, _, p1, p2, h4⟩ with z | z
    · exact .inl (own_start A z)
    · exact .inr z
  · obtain ⟨p1, p2⟩ := at_ h1 (sl_isW.symm.trans h7.1) h5 h3
    obtain ⟨p3, p4⟩ := at_ h2 (sl_isW.symm.trans h8.1) h6 h4
    exact R.inj i j _ _ _ _ x p1 p3 p2 p4 h7 h8
theorem noPab_at : ∀ {ms : List Md} {i : Nat}, noPab ms = true → ms[i]? = some Md.pab → False
  | [], i, _, e => by simp at e
  | m :: ms, 0, h, e => by simp at e; subst e; cases h
  | m :: ms, i + 1, h, e => by
    refine noPab_at (ms := ms) (i := i) ?_ (by simpa using e)
    cases m <;> first | exact h | cases h
/-- a def by its body, over data -/
theorem body3 {t2 : TS} {t3 : T3S} {ms : List Md} {sp : S3} {N : List Str} {n : Nat} (hs : SimS K t2 t3) (hn : N.length = ms.length + n) (hb : ∀ ds QR QO, sp ds QR QO → ds.length = ms.length → t3 (endE ms ds QR QO) (startE n ms ds)) :
    ∀ vs H Q E, Lift K ms sp vs H Q E → t2 { nx := fun _ H' => Q .non H', rt := Q } (L2.start N vs) H := by
  intro vs H Q E ⟨U, ds, QR, QO, A, h, h1, h2⟩
  have R := Rel.enter (N := N) (n := n) A (by rw [hn, A.l1])
  refine hs _ U _ _ H (endE ms ds QR QO) _ rfl R (hb ds QR QO h (A.l2.trans A.l1.symm)) ⟨fun U' ρ' σ' H' R' q => ?_, fun _ _ _ _ _ q => q.elim, fun _ _ _ _ _ q => q.elim, fun U' ρ' σ' H' d v R' rp q => ?_, fun U' ρ' σ' H' d a i R' e1 e2 q => ?_, fun U' ρ' σ' H' d a R' f q => ?_⟩
  · obtain ⟨ds', e, q⟩ := wo_out q
    exact h1 .non H' U' .non ds' (R'.leave A e) rp_non q
  · obtain ⟨ds', e, q⟩ := wo_out q
    exact h1 v H' U' d ds' (R'.leave A e) rp q
  · have q : (match noPab ms with | true => wo (fin ms ds ρ') fun ds' => QO d ds' | false => False) := q
    cases np : noPab ms with
    | false => rw [np] at q; exact q.elim
    | true =>
      rw [np] at q
      obtain ⟨ds', e, q⟩ := wo_out q
      obtain ⟨b, eb, u, t⟩ := R'.slot i _ _ e1 e2
      cases eb
      refine h2 a H' U' d ds' (R'.leave A e) t u ?_ q
      rcases R'.new a (Own.root e1 rfl e2) with z | z
      · exfalso
        obtain ⟨j, m, dj, v, k1, k2, k3, k4⟩ := own_start A z
        have w : m.isW = true := sl_isW.symm.trans k4.1
        cases m <;> first | (cases w; done) | exact noPab_at np k1 | skip
        -- the changed parameter still holds a; an owned slot with the same address would be that slot
        have hv : v = .ref a := by
          rcases k4.2 with z | z
          · cases z; rfl
          · cases z
        subst hv
        have hl : j < ds'.length := by
          have := (List.getElem?_eq_some_iff.mp k2).1
          rw [fin_len e]; exact this
        have hp := fin_par e k1 rfl (List.getElem?_eq_getElem hl)
        obtain ⟨_, el⟩ := R'.lock j _ _ hp rfl
        have el : σ'[j]? = some (some (.ref a)) := el.trans (start_arg k3)
        have := R'.inj i j _ _ _ _ a e1 hp e2 el ⟨rfl, .inl rfl⟩ ⟨rfl, .inl rfl⟩
        subst this
        rw [e1] at hp; cases hp
      · exact z
  · have q : (match noPab ms with | true => wo (fin ms ds ρ') fun ds' => QO d ds' | false => False) := q
    cases np : noPab ms with
    | false => rw [np] at q; exact q.elim
    | true =>
      rw [np] at q
      obtain ⟨ds', e, q⟩ := wo_out q
      exact h2 a H' U' d ds' (R'.leave A e) f.top f.u f.new q

/-! ### the caller's side -/
def argD : Md → Rs → En → Option D
  | .shr, .val d, _ => some d
  | .brw, .val d, _ => some d
  | .brw, .sl i, ρ => (Rs.sl i).dat ρ
  | .par, .sl i, ρ => match ρ[i]? with
    | some (.own d) => some d
    | some (.par d) => some d
    | _ => none
  | .pab, .sl i, ρ => match ρ[i]? with
    | some (.owb d) => some d
    | some (.pab d) => some d
    | _ => none
  | _, _, _ => none
def argsD : List Md → List Rs → En → Option (List D)
  | [], [], _ => some []
  | m :: ms, r :: rs, ρ => match argD m r ρ, argsD ms rs ρ with
    | some d, some ds => some (d :: ds)
    | _, _ => none
  | _, _, _ => none
/-- the slots that are changed; the others that are handed -/
def parN : List Md → List Rs → List Nat
  | .par :: ms, .sl i :: rs => i :: parN ms rs
  | .pab :: ms, .sl i :: rs => i :: parN ms rs
  | _ :: ms, _ :: rs => parN ms rs
  | _, _ => []
def brwN : List Md → List Rs → List Nat
  | .brw :: ms, .sl i :: rs => i :: brwN ms rs
  | _ :: ms, _ :: rs => brwN ms rs
  | _, _ => []
def apart (ms : List Md) (rs : List Rs) : Bool := decide (parN ms rs).Nodup && (parN ms rs).all fun i => !(brwN ms rs).contains i
def updI (ρ : En) (i : Nat) (d : D) : En := match ρ[i]? with
  | some (.own _) => ρ.set i (.own d)
  | some (.par _) => ρ.set i (.par d)
  | some (.owb _) => ρ.set i (.owb d)
  | some (.pab _) => ρ.set i (.pab d)
  | _ => ρ
/-- after the call -/
def updE : List Md → List Rs → List D → En → En
  | .par :: ms, .sl i :: rs, d :: ds, ρ => updE ms rs ds (updI ρ i d)
  | .pab :: ms, .sl i :: rs, d :: ds, ρ => updE ms rs ds (updI ρ i d)
  | _ :: ms, _ :: rs, _ :: ds, ρ => updE ms rs ds ρ
  | _, _, _, ρ => ρ
theorem argsD_out : ∀ {ms : List Md} {rs : List Rs} {ds : List D}, argsD ms rs ρ = some ds → ms.length = rs.length ∧ ds.length = rs.length ∧ ∀ (i : Nat) (m : Md) (d : D) (r : Rs), ms[i]? = some m → ds[i]? = some d → rs[i]? = some r → argD m r ρ = some d
  | [], [], ds, h => by cases h; exact ⟨rfl, rfl, fun i _ _ _ h => by simp at h⟩
  | [], _ :: _, _, h => by simp [argsD] at h
  | _ :: _, [], _, h => by simp [argsD] at h
  | m :: ms, r :: rs, ds, h => by
    unfold argsD at h
    split at h
    · rename_i d ds0 e1 e2
      cases h
      obtain ⟨l1, l2, g⟩ := argsD_out e2
      refine ⟨by simp [l1], by simp [l2], fun i m' d' r' h1 h2 h3 => ?_⟩
      cases i with
      | zero => simp at h1 h2 h3; subst h1; subst h2; subst h3; exact e1
      | succ i => exact g i m' d' r' (by simpa using h1) (by simpa using h2) (by simpa using h3)
    · cases h
theorem RVs.len {rs : List Rs} {vs : List V} (h : RVs F U σ H rs vs) : rs.length = vs.length := by
  induction h with
  | nil => rfl
  | cons _ _ ih => rw [List.length_cons, List.length_cons, ih]
theorem RVs.at {rs : List Rs} {vs : List V} (h : RVs F U σ H rs vs) : ∀ {i : Nat} {v : V}, vs[i]? = some v → ∃ r, rs[i]? = some r ∧ RV F U σ H r v := by
  induction h with
  | nil => intro i v e; simp at e
  | cons h _ ih =>
    intro i v e
    cases i with
    | zero => simp at e; subst e; exact ⟨_, rfl, h⟩
    | succ i => obtain ⟨r, e1, e2⟩ := ih (by simpa using e); exact ⟨r, by simpa using e1, e2⟩
theorem parN_mem : ∀ {ms : List Md} {rs : List Rs} {i j : Nat} {m : Md}, ms[i]? = some m → m.isW = true → rs[i]? = some (Rs.sl j) → j ∈ parN ms rs
  | [], _, i, j, _, h, _, _ => by simp at h
  | _ :: _, [], i, j, _, _, _, h => by simp at h
  | m :: ms, r :: rs, 0, j, m', h, w, h' => by simp at h h'; subst h; subst h'; cases m <;> first | (cases w; done) | simp [parN]
  | m :: ms, r :: rs, i + 1, j, m', h, w, h' => by
    have z := parN_mem (ms := ms) (rs := rs) (i := i) (by simpa using h) w (by simpa using h')
    cases m <;> cases r <;> simp [parN, z]
theorem parN_ex : ∀ {ms : List Md} {rs : List Rs} {j : Nat}, j ∈ parN ms rs → ∃ (i : Nat) (m : Md), ms[i]? = some m ∧ m.isW = true ∧ rs[i]? = some (Rs.sl j)
  | [], _, j, h => by simp [parN] at h
  | m :: ms, [], j, h => by cases m <;> simp [parN] at h
  | m :: ms, r :: rs, j, h => by
    have go : j ∈ parN ms rs → ∃ (i : Nat) (m' : Md), (m :: ms)[i]? = some m' ∧ m'.isW = true ∧ (r :: rs)[i]? = some (Rs.sl j) := fun h => by
      obtain ⟨i, m', h1, h2, h3⟩ := parN_ex h
      exact ⟨i + 1, m', by simpa using h1, h2, by simpa using h3⟩
    have hd : ∀ {k : Nat}, m.isW = true → r = .sl k → j ∈ k :: parN ms rs → ∃ (i : Nat) (m' : Md), (m :: ms)[i]? = some m' ∧ m'.isW = true ∧ (r :: rs)[i]? = some (Rs.sl j) := fun {k} w er h => by
      rcases List.mem_cons.mp h with e | h
      · subst e; subst er; exact ⟨0, m, rfl, w, rfl⟩
      · exact go h
    cases m <;> cases r <;> first | exact go h | exact hd rfl rfl h
theorem brwN_mem : ∀ {ms : List Md} {rs : List Rs} {i j : Nat}, ms[i]? = some Md.brw → rs[i]? = some (Rs.sl j) → j ∈ brwN ms rs
  | [], _, i, j, h, _ => by simp at h
  | _ :: _, [], i, j, _, h => by simp at h
  | m :: ms, r :: rs, 0, j, h, h' => by simp at h h'; subst h; subst h'; simp [brwN]
  | m :: ms, r :: rs, i + 1, j, h, h' => by
    have z := brwN_mem (ms := ms) (rs := rs) (i := i) (by simpa using h) (by simpa using h')
    cases m <;> cases r <;> simp [brwN, z]
theorem parN_tail {m : Md} {r : Rs} {ms : List Md} {rs : List Rs} (n : (parN (m :: ms) (r :: rs)).Nodup) : (parN ms rs).Nodup := by
  cases m <;> cases r <;> first | exact n | exact (List.nodup_cons.mp n).2
theorem parN_head {m : Md} {j : Nat} {ms : List Md} {rs : List Rs} (w : m.isW = true) : parN (m :: ms) (.sl j :: rs) = j :: parN ms rs := by
  cases m <;> first | rfl | cases w
theorem parN_inj : ∀ {ms : List Md} {rs : List Rs} {i j k : Nat} {m m' : Md}, (parN ms rs).Nodup → ms[i]? = some m → ms[j]? = some m' → m.isW = true → m'.isW = true → rs[i]? = some (Rs.sl k) → rs[j]? = some (Rs.sl k) → i = j
  | [], _, i, j, k, _, _, _, h, _, _, _, _, _ => by simp at h
  | _ :: _, [], i, j, k, _, _, _, _, _, _, _, h, _ => by simp at h
  | m :: ms, r :: rs, 0, 0, k, _, _, _, _, _, _, _, _, _ => rfl
  | m :: ms, r :: rs, 0, j + 1, k, _, _, n, h1, h2, w1, w2, h3, h4 => by
    simp at h1 h3; subst h1; subst h3
    have z := parN_mem (ms := ms) (rs := rs) (i := j) (by simpa using h2) w2 (by simpa using h4)
    rw [parN_head w1] at n
    exact absurd z (List.nodup_cons.mp n).1
  | m :: ms, r :: rs, i + 1, 0, k, _, _, n, h1, h2, w1, w2, h3, h4 => by
    simp at h2 h4; subst h2; subst h4
    have z := parN_mem (ms := ms) (rs := rs) (i := i) (by simpa using h1) w1 (by simpa using h3)
    rw [parN_head w2] at n
    exact absurd z (List.nodup_cons.mp n).1
  | m :: ms, r :: rs, i + 1, j + 1, k, _, _, n, h1, h2, w1, w2, h3, h4 =>
    congrArg (· + 1) (parN_inj (i := i) (j := j) (k := k) (parN_tail n) (by simpa using h1) (by simpa using h2) w1 w2 (by simpa using h3) (by simpa using h4))
theorem apart_out {ms : List Md} {rs : List Rs} (h : apart ms rs = true) : (parN ms rs).Nodup ∧ ∀ i, i ∈ parN ms rs → i ∉ brwN ms rs := by
  unfold apart at h
  rw [Bool.and_eq_true, decide_eq_true_eq, List.all_eq_true] at h
  exact ⟨h.1, fun i hi => by simpa using h.2 i hi⟩
/-- a written slot and the mode in which it is handed -/
structure Kin (m : Md) (s : Sl) : Prop where
  w : s.isW = true
  mw : m.isW = true
  ok : ∀ {K : PySem.W.Frag} {H : Hp} {U : US} {d : D} {o : Option V}, SlotOk K H U (m.sl d) o → SlotOk K H U (s.upd d) o
  ko : ∀ {K : PySem.W.Frag} {H : Hp} {U : US} {d : D} {o : Option V}, SlotOk K H U (s.upd d) o → SlotOk K H U (m.sl d) o
  bx : ∀ d, (m.sl d).bxs = (s.upd d).bxs
theorem Kin.reg {m : Md} {s : Sl} (k : Kin m s) {d : D} {o : Option V} {x : Addr} : (m.sl d).reg o x ↔ (s.upd d).reg o x := by
  unfold Sl.reg
  rw [k.bx, isW_upd, k.w, sl_isW, k.mw]
theorem upd_dat {s : Sl} {d : D} (w : s.isW = true) (h : s.dat = some d) : s.upd d = s := by cases s <;> first | (cases w; done) | (cases h; rfl)
/-- a changed argument: its slot -/
theorem par_slot (R : Rel F U ρ σ H) {m : Md} {r : Rs} {v : V} {d : D} (mw : m.isW = true) (e : argD m r ρ = some d) (q : RV F U σ H r v) : ∃ i s, r = .sl i ∧ ρ[i]? = some s ∧ s.dat = some d ∧ σ[i]? = some (some v) ∧ Kin m s := by
  cases m <;> first | (cases mw; done) | skip
  · cases r with
    | sl i =>
      have e : (match ρ[i]? with | some (.own d) => some d | some (.par d) => some d | _ => none) = some d := e
      cases hs : ρ[i]? with
      | none => rw [hs] at e; cases e
      | some s =>
        rw [hs] at e
        cases s with
        | own d => cases e; exact ⟨i, _, rfl, hs, rfl, q, rfl, rfl, fun h => h, fun h => h, fun _ => rfl⟩
        | par d => cases e; exact ⟨i, _, rfl, hs, rfl, q, rfl, rfl, fun h => h, fun h => h, fun _ => rfl⟩
        | _ => cases e
    | _ => cases e
  · cases r with
    | sl i =>
      have e : (match ρ[i]? with | some (.owb d) => some d | some (.pab d) => some d | _ => none) = some d := e
      cases hs : ρ[i]? with
      | none => rw [hs] at e; cases e
      | some s =>
        rw [hs] at e
        cases s with
        | owb d => cases e; exact ⟨i, _, rfl, hs, rfl, q, rfl, rfl, fun h => h, fun h => h, fun _ => rfl⟩
        | pab d => cases e; exact ⟨i, _, rfl, hs, rfl, q, rfl, rfl, fun h => h, fun h => h, fun _ => rfl⟩
        | _ => cases e
    | _ => cases e
theorem args_ok (R : Rel F U ρ σ H) {ms : List Md} {rs : List Rs} {vs : List V} {ds : List D} (q : RVs F U σ H rs vs) (e : argsD ms rs ρ = some ds) (ap : apart ms rs = true) :
    ArgsOk F.K H U ms ds vs ∧ ∀ a, Wm ms ds vs a → Own ρ σ a := by
  obtain ⟨l1, l2, g⟩ := argsD_out e
  obtain ⟨a1, a2⟩ := apart_out ap
  have parAt : ∀ {i : Nat} {m : Md} {d : D} {v : V}, ms[i]? = some m → m.isW = true → ds[i]? = some d → vs[i]? = some v → ∃ j s, rs[i]? = some (Rs.sl j) ∧ ρ[j]? = some s ∧ s.dat = some d ∧ σ[j]? = some (some v) ∧ Kin m s := fun {i m d v} h1 w h2 h3 => by
    obtain ⟨r, er, q1⟩ := q.at h3
    obtain ⟨j, s, rfl, z⟩ := par_slot R w (g i _ d r h1 h2 er) q1
    exact ⟨j, s, er, z⟩
  have own : ∀ a, Wm ms ds vs a → Own ρ σ a := fun a ⟨i, m, d, v, h1, h2, h3, h4⟩ => by
    obtain ⟨j, s, _, z1, z2, z3, k⟩ := parAt h1 (sl_isW.symm.trans h4.1) h2 h3
    have h4 := k.reg.mp h4
    rw [upd_dat k.w z2] at h4
    exact ⟨j, s, _, z1, z3, h4⟩
  refine ⟨⟨l1.trans q.len, l2.trans q.len, fun i m d v h1 h2 h3 => ?_, fun i j m m' d d' v v' x h1 h2 h3 h4 h5 h6 h7 h8 => ?_, R.tr⟩, own⟩
  · obtain ⟨r, er, q1⟩ := q.at h3
    have z := g i m d r h1 h2 er
    have wr : m.isW = true → SlotOk F.K H U (m.sl d) (some v) := fun w => by
      obtain ⟨j, s, rfl, z1, z2, z3, k⟩ := par_slot R w z q1
      have := R.slot j s _ z1 z3
      rw [← upd_dat k.w z2] at this
      exact k.ko this
    cases m with
    | shr =>
      cases r with
      | val d' => cases z; exact q1
      | _ => cases z
    | par => exact wr rfl
    | pab => exact wr rfl
    | brw =>
      cases r with
      | val d' => cases z; exact .inl q1
      | bx i f b => cases z
      | sl j =>
        have z : (Rs.sl j).dat ρ = some d := z
        rcases q1.get R z with w | ⟨a, rfl, t⟩
        · exact .inl w
        · have q1 : σ[j]? = some (some (.ref a)) := q1
          -- the lent slot: shared data, or an address that no changed slot holds
          have z : (match ρ[j]? with | some s => s.dat | none => none) = some d := z
          cases hs : ρ[j]? with
          | none => rw [hs] at z; cases z
          | some s =>
            rw [hs] at z
            have z : s.dat = some d := z
            cases w : s.isW with
            | true =>
              refine .inr ⟨a, rfl, t, fun x hx ⟨i', m', d', v', k1, k2, k3, k4⟩ => ?_⟩
              obtain ⟨j', s', y1, y2, y3, y4, k⟩ := parAt k1 (sl_isW.symm.trans k4.1) k2 k3
              have k4 := k.reg.mp k4
              rw [upd_dat k.w y3] at k4
              have := R.inj j j' _ _ _ _ x hs y2 q1 y4 (dat_reg w z (R.slot j s _ hs q1) hx) k4
              subst this
              exact a2 j (parN_mem k1 k.mw y1) (brwN_mem h1 er)
            | false =>
              cases s <;> first | (cases w; done) | skip
              · cases z
              · cases z
                obtain ⟨v', e', w⟩ := R.slot j _ _ hs q1
                cases e'; exact .inl w
              · cases z
                rcases R.bor j d _ hs q1 with ⟨v', e', w⟩ | ⟨b, e', t', no⟩
                · cases e'; exact .inl w
                · cases e'; exact .inr ⟨a, rfl, t', fun x hx z => no x hx (own x z)⟩
  · obtain ⟨j1, s1, k1, k2, k3, k4, c1⟩ := parAt h1 (sl_isW.symm.trans h7.1) h3 h5
    obtain ⟨j2, s2, k5, k6, k7, k8, c2⟩ := parAt h2 (sl_isW.symm.trans h8.1) h4 h6
    have h7 := c1.reg.mp h7
    have h8 := c2.reg.mp h8
    rw [upd_dat c1.w k3] at h7
    rw [upd_dat c2.w k7] at h8
    have := R.inj j1 j2 s1 s2 _ _ x k2 k6 k4 k8 h7 h8
    subst this
    exact parN_inj a1 h1 h2 c1.mw c2.mw k1 k5
/-- what the slots are after the call -/
theorem updI_get {d : D} {k j : Nat} : (updI ρ k d)[j]? = if k = j then (ρ[j]?).map (fun s => if s.isW = true then s.upd d else s) else ρ[j]? := by
  by_cases e : k = j
  · subst e
    rw [if_pos rfl]
    unfold updI
    cases h : ρ[k]? with
    | none => simp [h]
    | some s =>
      have hk : k < ρ.length := (List.getElem?_eq_some_iff.mp h).1
      cases s <;> first | (simp [hk, Sl.isW, Sl.upd]; done) | (simp only [h]; rfl)
  · rw [if_neg e]
    unfold updI
    cases h : ρ[k]? with
    | none => rfl
    | some s => cases s <;> first | rfl | exact List.getElem?_set_ne e
theorem updE_no : ∀ {ms : List Md} {rs : List Rs} {ds : List D} {ρ : En} {j : Nat}, j ∉ parN ms rs → (updE ms rs ds ρ)[j]? = ρ[j]?
  | [], _, _, _, _, _ => by simp [updE]
  | _ :: _, [], _, _, _, _ => by simp [updE]
  | m :: ms, r :: rs, [], ρ, j, _ => by cases m <;> cases r <;> simp [updE]
  | m :: ms, r :: rs, d :: ds, ρ, j, h => by
    have wr : ∀ {k : Nat}, parN (m :: ms) (r :: rs) = k :: parN ms rs → updE (m :: ms) (r :: rs) (d :: ds) ρ = updE ms rs ds (updI ρ k d) → (updE (m :: ms) (r :: rs) (d :: ds) ρ)[j]? = ρ[j]? := fun {k} e1 e2 => by
      rw [e1] at h
      rw [e2, updE_no (ms := ms) fun z => h (List.mem_cons_of_mem _ z), updI_get, if_neg fun z : k = j => h (by rw [z]; exact List.mem_cons_self ..)]
    cases m <;> cases r <;> first | exact updE_no (ms := ms) h | exact wr rfl rfl
theorem updE_yes : ∀ {ms : List Md} {rs : List Rs} {ds : List D} {ρ : En} {i j : Nat} {m : Md} {d : D}, (parN ms rs).Nodup → ms[i]? = some m → m.isW = true → rs[i]? = some (Rs.sl j) → ds[i]? = some d → (updE ms rs ds ρ)[j]? = (ρ[j]?).map (fun s => if s.isW = true then s.upd d else s)
  | [], _, _, _, i, _, _, _, _, h, _, _, _ => by simp at h
  | _ :: _, [], _, _, i, _, _, _, _, _, _, h, _ => by simp at h
  | _ :: _, _ :: _, [], _, i, _, _, _, _, _, _, _, h => by simp at h
  | m :: ms, r :: rs, d :: ds, ρ, 0, j, m', d', n, h1, w, h2, h3 => by
    simp at h1 h2 h3
    subst h1; subst h2; subst h3
    rw [parN_head w] at n
    have e : updE (m :: ms) (.sl j :: rs) (d :: ds) ρ = updE ms rs ds (updI ρ j d) := by cases m <;> first | rfl | cases w
    rw [e, updE_no (List.nodup_cons.mp n).1, updI_get, if_pos rfl]
  | m :: ms, r :: rs, d :: ds, ρ, i + 1, j, m', d', n, h1, w, h2, h3 => by
    have ih : ∀ ρ', (updE ms rs ds ρ')[j]? = (ρ'[j]?).map (fun s => if s.isW = true then s.upd d' else s) := fun ρ' =>
      updE_yes (parN_tail n) (by simpa using h1) w (by simpa using h2) (by simpa using h3)
    have wr : ∀ {k : Nat}, parN (m :: ms) (r :: rs) = k :: parN ms rs → updE (m :: ms) (r :: rs) (d :: ds) ρ = updE ms rs ds (updI ρ k d) → (updE (m :: ms) (r :: rs) (d :: ds) ρ)[j]? = (ρ[j]?).map (fun s => if s.isW = true then s.upd d' else s) := fun {k} e1 e2 => by
      rw [e1] at n
      have hj : j ∈ parN ms rs := parN_mem (ms := ms) (i := i) (by simpa using h1) w (by simpa using h2)
      rw [e2, ih, updI_get, if_neg fun z : k = j => (List.nodup_cons.mp n).1 (by rw [z]; exact hj)]
    cases m <;> cases r <;> first | exact ih ρ | exact wr rfl rfl
theorem updI_len {k : Nat} {d : D} : (updI ρ k d).length = ρ.length := by
  unfold updI
  split <;> simp
theorem updE_len : ∀ {ms : List Md} {rs : List Rs} {ds : List D} {ρ : En}, (updE ms rs ds ρ).length = ρ.length
  | [], _, _, _ => by simp [updE]
  | _ :: _, [], _, _ => by simp [updE]
  | m :: ms, r :: rs, [], _ => by cases m <;> cases r <;> simp [updE]
  | m :: ms, r :: rs, d :: ds, ρ => by
    cases m <;> cases r <;> first | exact updE_len (ms := ms) | exact (updE_len (ms := ms)).trans updI_len
/-- the relation after a call -/
theorem Rel.after (R : Rel F U ρ σ H) {ms : List Md} {rs : List Rs} {vs : List V} {ds ds' : List D} {U' : US} (q : RVs F U σ H rs vs) (e : argsD ms rs ρ = some ds) (ap : apart ms rs = true) (A : After F.K H U ms ds vs H' U' ds') :
    Rel F U' (updE ms rs ds' ρ) σ H' ∧ (∀ a o, H a = some o → ¬ Own ρ σ a → H' a = some o) ∧ (∀ a, Own (updE ms rs ds' ρ) σ a → Own ρ σ a ∨ H a = none) := by
  obtain ⟨AO, own⟩ := args_ok R q e ap
  obtain ⟨l1, l2, g⟩ := argsD_out e
  obtain ⟨a1, a2⟩ := apart_out ap
  have hl : ds'.length = rs.length := A.len.trans q.len.symm
  have p : Pres H U H' U' := fun a o h n => ⟨A.keep a o h fun w => n (R.ownU (own a w)), A.shar a o h n⟩
  have vAt : ∀ {i : Nat} {r : Rs}, rs[i]? = some r → ∃ v, vs[i]? = some v ∧ RV F U σ H r v := fun {i r} h => by
    have : i < vs.length := by have := (List.getElem?_eq_some_iff.mp h).1; rw [← q.len]; exact this
    have hv : vs[i]? = some vs[i] := List.getElem?_eq_getElem this
    obtain ⟨r', er, q1⟩ := q.at hv
    rw [h] at er; cases er
    exact ⟨_, hv, q1⟩
  -- a slot afterwards: as it was, off what the call may change; or written
  have gt : ∀ {j : Nat} {s' : Sl} {o : Option V}, (updE ms rs ds' ρ)[j]? = some s' → σ[j]? = some o → (ρ[j]? = some s' ∧ ∀ x, s'.reg o x → ¬ Wm ms ds vs x) ∨
      ∃ (i : Nat) (m : Md) (d : D) (s : Sl) (v : V), ms[i]? = some m ∧ ds'[i]? = some d ∧ vs[i]? = some v ∧ rs[i]? = some (.sl j) ∧ ρ[j]? = some s ∧ Kin m s ∧ s' = s.upd d ∧ o = some v := fun {j s' o} h ho => by
    by_cases hj : j ∈ parN ms rs
    · obtain ⟨i, m, h1, w, h2⟩ := parN_ex hj
      have hi : i < ds'.length := by have := (List.getElem?_eq_some_iff.mp h2).1; omega
      obtain ⟨v, hv, q1⟩ := vAt h2
      have hd : i < ds.length := by have := (List.getElem?_eq_some_iff.mp h2).1; omega
      obtain ⟨j', s, ej, z1, z2, z3, k⟩ := par_slot R w (g i m _ _ h1 (List.getElem?_eq_getElem hd) h2) q1
      cases ej
      rw [updE_yes a1 h1 w h2 (List.getElem?_eq_getElem hi), z1] at h
      have h : some (if s.isW = true then s.upd ds'[i] else s) = some s' := h
      rw [if_pos k.w] at h
      have e3 : o = some v := by rw [z3] at ho; exact (Option.some.inj ho).symm
      exact .inr ⟨i, m, _, s, v, h1, List.getElem?_eq_getElem hi, hv, h2, z1, k, (Option.some.inj h).symm, e3⟩
    · rw [updE_no hj] at h
      refine .inl ⟨h, fun x hx ⟨i, m, d, v, k1, k2, k3, k4⟩ => ?_⟩
      obtain ⟨r, er, q1⟩ := q.at k3
      have w := sl_isW.symm.trans k4.1
      obtain ⟨j', s, rfl, z1, z2, z3, k⟩ := par_slot R w (g i m d r k1 k2 er) q1
      have k4 := k.reg.mp k4
      rw [upd_dat k.w z2] at k4
      have := R.inj j j' _ _ _ _ x h z1 ho z3 hx k4
      subst this
      exact hj (parN_mem k1 w er)
  have wreg : ∀ {i : Nat} {m : Md} {d : D} {s : Sl} {v : V} {x : Addr}, ms[i]? = some m → ds'[i]? = some d → vs[i]? = some v → Kin m s → (s.upd d).reg (some v) x → Wm ms ds' vs x := fun {i m d s v x} h1 h2 h3 k h4 => ⟨i, m, d, v, h1, h2, h3, k.reg.mpr h4⟩
  have own' : ∀ a, Own (updE ms rs ds' ρ) σ a → Own ρ σ a ∨ H a = none := fun a ⟨j, s', o, h1, h2, h3⟩ => by
    rcases gt h1 h2 with ⟨z, _⟩ | ⟨i, m, d, s, v, k1, k2, k3, _, k4, k, rfl, rfl⟩
    · exact .inl ⟨j, s', o, z, h2, h3⟩
    · exact (A.reg a (wreg k1 k2 k3 k h3)).imp (own a) id
  refine ⟨⟨by rw [updE_len]; exact R.len, fun j s' o h1 h2 => ?_, fun j d o h1 h2 => ?_, fun i j s t o o' x h1 h2 h3 h4 h5 h6 => ?_, A.tr, fun a o h n => ?_, fun a o h => ?_, fun a o h n => ?_, fun a h n => A.up a (R.up a h n) fun w => n (R.own0 (own a w) h), fun a h => ?_, fun i s l h1 h2 => ?_, R.wu, R.b0, R.u0⟩, fun a o h n => A.keep a o h fun w => n (own a w), own'⟩
  · rcases gt h1 h2 with ⟨z, zn⟩ | ⟨i, m, d, s, v, k1, k2, k3, _, k4, k, rfl, rfl⟩
    · exact (R.slot j s' o z h2).pres p fun x hx u => ⟨A.up x u (zn x hx), fun o h => A.keep x o h (zn x hx)⟩
    · exact k.ok (A.par i m v d k1 k.mw k3 k2)
  · rcases gt h1 h2 with ⟨z, zn⟩ | ⟨i, m, d', s, v, k1, k2, k3, _, k4, k, e', rfl⟩
    · rcases R.bor j d o z h2 with ⟨v, e1, w⟩ | ⟨b, e1, w, no⟩
      · exact .inl ⟨v, e1, Rp.pres p d v w⟩
      · refine .inr ⟨b, e1, w.pres p fun x hx o h => A.keep x o h fun w => no x hx (own x w), fun x hx z => ?_⟩
        rcases own' x z with z | z
        · exact no x hx z
        · obtain ⟨o, ho⟩ := w.some x hx
          rw [z] at ho; cases ho
    · have := k.w
      rw [← isW_upd (s := s) (d' := d'), ← e'] at this; cases this
  · rcases gt h1 h3 with ⟨z, zn⟩ | ⟨i1, m1, d1, s1, v1, k1, k2, k3, c1, k4, k, rfl, rfl⟩
    · rcases gt h2 h4 with ⟨z', zn'⟩ | ⟨i2, m2, d2, s2, v2, l1, l2, l3, c2, l4, l, rfl, rfl⟩
      · exact R.inj i j s t o o' x z z' h3 h4 h5 h6
      · exfalso
        rcases A.reg x (wreg l1 l2 l3 l h6) with w | w
        · exact zn x h5 w
        · obtain ⟨o, ho⟩ := R.tr x (R.ownU ⟨i, s, o, z, h3, h5⟩)
          rw [w] at ho; cases ho
    · rcases gt h2 h4 with ⟨z', zn'⟩ | ⟨i2, m2, d2, s2, v2, l1, l2, l3, c2, l4, l, rfl, rfl⟩
      · exfalso
        rcases A.reg x (wreg k1 k2 k3 k h5) with w | w
        · exact zn' x h6 w
        · obtain ⟨o, ho⟩ := R.tr x (R.ownU ⟨j, t, o', z', h4, h6⟩)
          rw [w] at ho; cases ho
      · have := A.inj i1 i2 m1 m2 d1 d2 v1 v2 x k1 l1 k2 l2 k3 l3 (k.reg.mpr h5) (l.reg.mpr h6)
        subst this
        rw [c1] at c2
        cases c2; rfl
  · refine A.keep a o (R.keep a o h n) fun w => ?_
    rcases R.new a (own a w) with z | z
    · exact n z
    · rw [z] at h; cases h
  · obtain ⟨o', h'⟩ := R.ktr a o h
    exact A.ktr a o' h'
  · obtain ⟨o', h'⟩ := R.ktr a o h
    exact A.shar a o' h' (R.shar a o h n)
  · rcases own' a h with z | z
    · exact R.new a z
    · refine .inr ?_
      cases eh : F.H0 a with
      | none => rfl
      | some o =>
        obtain ⟨o', h'⟩ := R.ktr a o eh
        rw [z] at h'; cases h'
  · by_cases hi : i < σ.length
    · rcases gt h1 (List.getElem?_eq_getElem hi) with ⟨z, _⟩ | ⟨i', m, d, s', v, k1, k2, k3, _, k4, k, rfl, _⟩
      · exact R.lock i s l z h2
      · rw [lk_upd k.w] at h2
        exact R.lock i s' l k4 h2
    · have := (List.getElem?_eq_some_iff.mp h1).1
      rw [updE_len, R.len] at this
      exact absurd this hi
/-- the boxes are the same -/
def sameB : List Md → List D → List D → Prop
  | .pab :: ms, d :: ds, d' :: ds' => d'.bxs = d.bxs ∧ sameB ms ds ds'
  | _ :: ms, _ :: ds, _ :: ds' => sameB ms ds ds'
  | _, _, _ => True
theorem sameB_no : ∀ {ms : List Md} {ds ds' : List D}, noPab ms = true → sameB ms ds ds'
  | [], _, _, _ => by simp [sameB]
  | m :: ms, [], ds', _ => by cases m <;> simp [sameB]
  | m :: ms, d :: ds, [], _ => by cases m <;> simp [sameB]
  | m :: ms, d :: ds, d' :: ds', h => by cases m <;> first | exact sameB_no (ms := ms) h | cases h
theorem sameB_at : ∀ {ms : List Md} {ds ds' : List D} {i : Nat} {m : Md} {d d' : D}, sameB ms ds ds' → ms[i]? = some m → ds[i]? = some d → ds'[i]? = some d' → (m.sl d').bxs = (m.sl d).bxs
  | [], _, _, i, _, _, _, _, h, _, _ => by simp at h
  | _ :: _, [], _, i, _, _, _, _, _, h, _ => by simp at h
  | _ :: _, _ :: _, [], i, _, _, _, _, _, _, h => by simp at h
  | m :: ms, d :: ds, d' :: ds', 0, m', e, e', h, h1, h2, h3 => by
    simp at h1 h2 h3; subst h1; subst h2; subst h3
    cases m <;> first | rfl | exact h.1
  | m :: ms, d :: ds, d' :: ds', i + 1, m', e, e', h, h1, h2, h3 => by
    refine sameB_at (ms := ms) (ds := ds) (ds' := ds') (i := i) ?_ (by simpa using h1) (by simpa using h2) (by simpa using h3)
    cases m <;> first | exact h | exact h.2
theorem After.wm {ms : List Md} {ds ds' : List D} {vs : List V} {U' : US} (A : After K H U ms ds vs H' U' ds') (AO : ArgsOk K H U ms ds vs) (sb : sameB ms ds ds') : ∀ x, Wm ms ds vs x ↔ Wm ms ds' vs x := by
  intro x
  constructor
  · rintro ⟨i, m, d, v, h1, h2, h3, h4⟩
    have hi : i < ds'.length := by have := (List.getElem?_eq_some_iff.mp h3).1; rw [A.len]; exact this
    exact ⟨i, m, _, v, h1, List.getElem?_eq_getElem hi, h3, sl_isW.trans (sl_isW.symm.trans h4.1), h4.2.imp id fun z => by rw [sameB_at sb h1 h2 (List.getElem?_eq_getElem hi)]; exact z⟩
  · rintro ⟨i, m, d, v, h1, h2, h3, h4⟩
    have hi : i < ds.length := by have := (List.getElem?_eq_some_iff.mp h3).1; rw [AO.l2]; exact this
    exact ⟨i, m, _, v, h1, List.getElem?_eq_getElem hi, h3, sl_isW.trans (sl_isW.symm.trans h4.1), h4.2.imp id fun z => by rw [← sameB_at sb h1 (List.getElem?_eq_getElem hi) h2]; exact z⟩
/-- a call that makes no new boxes keeps U -/
theorem After.upA {ms : List Md} {ds ds' : List D} {vs : List V} {U' : US} (A : After K H U ms ds vs H' U' ds') (AO : ArgsOk K H U ms ds vs) (sb : sameB ms ds ds') : ∀ a, U a → U' a := fun a u => by
  by_cases w : Wm ms ds vs a
  · obtain ⟨i, m, d, v, h1, h2, h3, h4⟩ := (A.wm AO sb a).mp w
    exact (A.par i m v d h1 (sl_isW.symm.trans h4.1) h3 h2).regU h4
  · exact A.up a u w
theorem Rel.afterS (R : Rel F U ρ σ H) {ms : List Md} {rs : List Rs} {vs : List V} {ds ds' : List D} {U' : US} (q : RVs F U σ H rs vs) (e : argsD ms rs ρ = some ds) (ap : apart ms rs = true) (sb : sameB ms ds ds') (A : After F.K H U ms ds vs H' U' ds') :
    Rel F U' (updE ms rs ds' ρ) σ H' ∧ Stp ρ σ H (updE ms rs ds' ρ) H' := by
  obtain ⟨AO, own⟩ := args_ok R q e ap
  obtain ⟨R2, k1, k2⟩ := R.after q e ap A
  refine ⟨R2, k1, fun a h => ?_, A.ktr⟩
  rcases k2 a h with z | z
  · exact z
  · -- a new box: there is none
    exfalso
    obtain ⟨l1, l2, g⟩ := argsD_out e
    obtain ⟨a1, a2⟩ := apart_out ap
    obtain ⟨j, s', o, h1, h2, h3⟩ := h
    have hU : ∀ x, Own ρ σ x → ∃ o, H x = some o := fun x hx => R.tr x (R.ownU hx)
    by_cases hj : j ∈ parN ms rs
    · obtain ⟨i, m, g1, w, g2⟩ := parN_ex hj
      have hv : i < vs.length := by have := (List.getElem?_eq_some_iff.mp g2).1; rw [← q.len]; exact this
      obtain ⟨r, er, q1⟩ := q.at (List.getElem?_eq_getElem hv)
      rw [g2] at er; cases er
      have hd : i < ds.length := by have := q.len; omega
      have hd' : i < ds'.length := by rw [A.len]; exact hv
      obtain ⟨j', s, ej, z1, z2, z3, k⟩ := par_slot R w (g i m _ _ g1 (List.getElem?_eq_getElem hd) g2) q1
      cases ej
      rw [updE_yes a1 g1 w g2 (List.getElem?_eq_getElem hd'), z1] at h1
      have h1 : some (if s.isW = true then s.upd ds'[i] else s) = some s' := h1
      rw [if_pos k.w] at h1
      cases h1
      rw [z3] at h2; cases h2
      have w' : Wm ms ds' vs a := ⟨i, m, _, _, g1, List.getElem?_eq_getElem hd', List.getElem?_eq_getElem hv, k.reg.mpr h3⟩
      obtain ⟨o, ho⟩ := hU a (own a ((A.wm AO sb a).mpr w'))
      rw [z] at ho; cases ho
    · rw [updE_no hj] at h1
      obtain ⟨o, ho⟩ := hU a ⟨j, s', o, h1, h2, h3⟩
      rw [z] at ho; cases ho
/-- a call: what it gives is shared -/
def eCall (ms : List Md) (sp : S3) (g : T3A) : T3E := fun ρ Q => g ρ fun rs ρ1 => apart ms rs = true ∧ wo (argsD ms rs ρ1) fun ds => sp ds (fun d ds' => Q (.val d) (updE ms rs ds' ρ1)) (fun d ds' => Q (.val d) (updE ms rs ds' ρ1))
theorem rp_of_top (h : TopW K H U d a) (n : ¬ U a) : Rp K H U d (.ref a) := by
  cases d <;> first | exact h.elim | skip
  · obtain ⟨vs, h1, h2⟩ := h; simp only [Rp]; exact ⟨a, vs, rfl, ⟨h1, n⟩, h2⟩
  · obtain ⟨vs, h1, h2⟩ := h; simp only [Rp]; exact ⟨a, vs, rfl, .inl h1, n, h2⟩
  · obtain ⟨vs, h1, h2⟩ := h; simp only [Rp]; exact ⟨a, vs, rfl, .inl h1, n, h2⟩
  · obtain ⟨dx, vs, h1, h2⟩ := h; simp only [Rp]; exact ⟨a, dx, vs, rfl, h1, n, h2⟩
  · obtain ⟨xs, h1, h2⟩ := h; simp only [Rp]; exact ⟨a, xs, rfl, .inl h1, n, h2⟩
/-- what follows a call within an expression -/
theorem callE {ms : List Md} {sp : S3} {rs : List Rs} {vs : List V} {ds : List D} {ρ1 : En} {H1 : Hp} {Q3 : Rs → En → Prop} {Q2 : VK} (R : Rel F U ρ σ H) (s1 : Stp ρ σ H ρ1 H1) (R1 : Rel F U ρ1 σ H1) (q1 : RVs F U σ H1 rs vs) (ap : apart ms rs = true) (ed : argsD ms rs ρ1 = some ds)
    (h1 : sp ds (fun d ds' => sameB ms ds ds' ∧ Q3 (.val d) (updE ms rs ds' ρ1)) (fun d ds' => sameB ms ds ds' ∧ Q3 (.val d) (updE ms rs ds' ρ1))) (k : KE F U ρ σ H Q3 Q2) (E : XK) : Lift F.K ms sp vs H1 Q2 E := by
  obtain ⟨AO, own⟩ := args_ok R1 q1 ed ap
  refine ⟨U, ds, _, _, AO, h1, fun v H' U' d ds' A rp q => ?_, fun a H' U' d ds' A t u nw q => ?_⟩
  · obtain ⟨R2, S2⟩ := R1.afterS q1 ed ap q.1 A
    have up := A.upA AO q.1
    have R3 : Rel F U (updE ms rs ds' ρ1) σ H' := R2.shrink up R.up fun a z => R1.ownU (S2.own a z)
    refine k (.val d) v _ _ R3 (s1.trans S2) ?_ q.2
    exact Rp.pres (fun a o h n => ⟨h, fun z => n (up a z)⟩) d v rp
  · obtain ⟨R2, S2⟩ := R1.afterS q1 ed ap q.1 A
    have up := A.upA AO q.1
    have R3 : Rel F U (updE ms rs ds' ρ1) σ H' := R2.shrink up R.up fun a z => R1.ownU (S2.own a z)
    refine k (.val d) (.ref a) _ _ R3 (s1.trans S2) ?_ q.2
    have p : Pres H' U' H' U := fun a o h n => ⟨h, fun z => n (up a z)⟩
    have nU : ¬ U a := fun z => by
      obtain ⟨o, ho⟩ := R1.tr a z
      rw [nw] at ho; cases ho
    exact rp_of_top (t.pres p fun _ h => h) nU
/-- a promise may ask less -/
def S3.Mono (sp : S3) : Prop := ∀ ds QR QO QR' QO', sp ds QR QO → (∀ d ds', QR d ds' → QR' d ds') → (∀ d ds', QO d ds' → QO' d ds') → sp ds QR' QO'
theorem callN {ms : List Md} {sp : S3} {rs : List Rs} {vs : List V} {ds : List D} {ρ1 : En} {H1 : Hp} {Q3 : Rs → En → Prop} {Q2 : VK} (np : noPab ms = true) (R : Rel F U ρ σ H) (s1 : Stp ρ σ H ρ1 H1) (R1 : Rel F U ρ1 σ H1) (q1 : RVs F U σ H1 rs vs) (ap : apart ms rs = true) (ed : argsD ms rs ρ1 = some ds)
    (h1 : sp ds (fun d ds' => Q3 (.val d) (updE ms rs ds' ρ1)) (fun d ds' => Q3 (.val d) (updE ms rs ds' ρ1))) (k : KE F U ρ σ H Q3 Q2) (E : XK) : Lift F.K ms sp vs H1 Q2 E := by
  refine callE R s1 R1 q1 ap ed ?_ k E
  have e : ∀ ds', sameB ms ds ds' = True := fun ds' => eq_true (sameB_no np)
  simp only [e, true_and]
  exact h1
theorem simCall {E : XK} {ms : List Md} {sp : S3} {u : TA} {g : T3A} (np : noPab ms = true) (h : SimA K u g) : SimE K (tCall (Lift K ms sp) [] E u) (eCall ms sp g) := by
  intro F U ρ σ H Q3 Q2 e R q k
  refine h F U ρ σ H _ _ e R q fun rs vs ρ1 H1 R1 s1 q1 ⟨ap, h1⟩ => ?_
  obtain ⟨ds, ed, h1⟩ := wo_out h1
  subst e
  rw [List.append_nil]
  exact callN np R s1 R1 q1 ap ed h1 k E
/-- .. is new and owned -/
def oCall (ms : List Md) (sp : S3) (g : T3A) : En → (D → En → Prop) → Prop := fun ρ Q => g ρ fun rs ρ1 => apart ms rs = true ∧ wo (argsD ms rs ρ1) fun ds => sp ds (fun _ _ => False) (fun d ds' => Q d (updE ms rs ds' ρ1))
theorem simOCall {E : XK} {ms : List Md} {sp : S3} {u : TA} {g : T3A} (np : noPab ms = true) (h : SimA K u g) : SimEO K (tCall (Lift K ms sp) [] E u) (oCall ms sp g) := by
  intro F U ρ σ H Q3 Q2 e R q k
  refine h F U ρ σ H _ _ e R q fun rs vs ρ1 H1 R1 s1 q1 ⟨ap, h1⟩ => ?_
  obtain ⟨ds, ed, h1⟩ := wo_out h1
  subst e
  obtain ⟨AO, own⟩ := args_ok R1 q1 ed ap
  rw [List.append_nil]
  refine ⟨U, ds, _, _, AO, h1, fun v H' U' d ds' A rp q => q.elim, fun a H' U' d ds' A t u nw q => ?_⟩
  obtain ⟨R2, S2⟩ := R1.afterS q1 ed ap (sameB_no np) A
  have up := A.upA AO (sameB_no np)
  have R3 : Rel F (fun b => U b ∨ b = a) (updE ms rs ds' ρ1) σ H' := R2.shrink (fun b z => z.elim (up b) fun e => by rw [e]; exact u) (fun b z n => .inl (R.up b z n)) fun a z => .inl (R1.ownU (S2.own a z))
  have p : Pres H' U' H' (fun b => U b ∨ b = a) := fun b o h n => ⟨h, fun z => n (z.elim (up b) fun e => by rw [e]; exact u)⟩
  refine k d a _ _ R3 (s1.trans S2) ?_ (t.pres p fun _ h => h) q
  cases eh : H a with
  | none => rfl
  | some o =>
    obtain ⟨o', h'⟩ := s1.tr a o eh
    rw [nw] at h'; cases h'
end
end L3

set_option Elab.async false
set_option linter.all false
set_option maxRecDepth 100000
namespace L3
open PySem PySem.Spec L2
open PyProof.Rows (b2i)

abbrev T3O' := En → (D → En → Prop) → Prop
section
variable {F : Fr} {U U2 : US} {ρ ρ' ρ2 : En} {σ σ2 : St} {H H' H2 : Hp} {K : PySem.W.Frag}

/-! ### a new object that is shared at once -/
def eShr (f : T3O') : T3E := fun ρ Q => f ρ fun d ρ1 => Q (.val d) ρ1
theorem Rel.noU (R : Rel F U ρ σ H) {a : Addr} (h : H a = none) : ¬ U a := fun z => by
  obtain ⟨o, ho⟩ := R.tr a z
  rw [h] at ho; cases ho
theorem simShr {t : TE} {f : T3O'} (h : SimEO K t f) : SimE K t (eShr f) := by
  intro F U ρ σ H Q3 Q2 e R q k
  refine h F U ρ σ H _ _ e R q fun d a ρ' H' R' S' hn t' q' => ?_
  have R3 : Rel F U ρ' σ H' := R'.shrink (fun a z => .inl z) R.up fun a z => R.ownU (S'.own a z)
  have p : Pres H' (fun b => U b ∨ b = a) H' U := fun a o h n => ⟨h, fun z => n (.inl z)⟩
  exact k (.val d) (.ref a) ρ' H' R3 S' (rp_of_top (t'.pres p fun _ h => h) (R.noU hn)) q'
/-- a new object at p -/
theorem freshEO (R : Rel F U ρ σ H) {p : Addr} {o : HO} (hp : H p = none) : Rel F (fun b => U b ∨ b = p) ρ σ (upd H p o) ∧ Stp ρ σ H ρ (upd H p o) ∧ Pres H U (upd H p o) (fun b => U b ∨ b = p) :=
  ⟨R.grow hp (ext_new hp) upd_same, .ext (ext_new hp), fun x u h n => ⟨ext_new hp x u h, fun z => z.elim n fun e => by subst e; rw [hp] at h; cases h⟩⟩
def oLst (g : T3A) : T3O' := fun ρ Q => g ρ fun rs ρ1 => allV rs fun ds => ds.length ≤ sizeLine ∧ Q (.lst ds) ρ1
theorem back_none (S : Stp ρ σ H ρ' H') {p : Addr} (h : H' p = none) : H p = none := by
  cases e : H p with
  | none => rfl
  | some o => obtain ⟨o', h'⟩ := S.tr p o e; rw [h] at h'; cases h'
theorem simOLst {u : TA} {g : T3A} (h : SimA K u g) : SimEO K (tLst u) (oLst g) := by
  intro F U ρ σ H Q3 Q2 e R q k
  refine h F U ρ σ H _ _ e R q fun rs vs ρ1 H1 R1 s1 q1 h1 => ?_
  obtain ⟨ds, z1, z2, z3, z4⟩ := allV_out q1 h1
  refine ⟨by rw [z1.len]; exact z3, fun p hp => ?_⟩
  obtain ⟨R2, S2, P2⟩ := freshEO R1 (o := .lst vs) hp
  exact k (.lst ds) p ρ1 _ R2 (s1.trans S2) (back_none s1 hp) ⟨vs, upd_same, RpAll.pres P2 _ _ z1⟩ z4
/-- list(x), x a list or a tuple -/
def oListC (g : T3A) : T3O' := fun ρ Q => g ρ fun rs ρ1 => w1 rs ρ1 fun d => match d with
  | .lst ds => Q (.lst ds) ρ1
  | .tup ds => Q (.lst ds) ρ1
  | _ => False
theorem simOListC {u : TA} {g : T3A} (h : SimA K u g) : SimEO K (tCB (fun xs H Q => ∃ p ys, xs = [.ref p] ∧ (SqL K H p ys ∨ SqT K H p ys) ∧ ∀ l, H l = none → Q (.ref l) (upd H l (.lst ys))) u) (oListC g) := by
  intro F U ρ σ H Q3 Q2 e R q k
  refine h F U ρ σ H _ _ e R q fun rs vs ρ1 H1 R1 s1 q1 h1 => ?_
  obtain ⟨x, v, d, rfl, rfl, q1, e1, h⟩ := w1_out q1 h1
  subst e
  have fin : ∀ {ds : List D} {vs : List V}, RpAll F.K H1 U ds vs → Q3 (.lst ds) ρ1 → ∀ p, H1 p = none → Q2 (.ref p) (upd H1 p (.lst vs)) := fun {ds vs} z2 h p hp => by
    obtain ⟨R2, S2, P2⟩ := freshEO R1 (o := .lst vs) hp
    exact k (.lst ds) p ρ1 _ R2 (s1.trans S2) (back_none s1 hp) ⟨vs, upd_same, RpAll.pres P2 _ _ z2⟩ h
  cases d <;> first | exact h.elim | skip
  · obtain ⟨a, vs, rfl, z1, z2, _⟩ := q1.tup R1 e1
    exact ⟨a, vs, rfl, .inr z1, fin z2 h⟩
  · obtain ⟨a, vs, rfl, z1, z2⟩ := q1.lst R1 e1
    exact ⟨a, vs, rfl, .inl z1, fin z2 h⟩
/-- xs[::-1] -/
def oRev (f : T3E) : T3O' := fun ρ Q => f ρ fun r ρ1 => wd r ρ1 fun d => match d with
  | .lst ds => Q (.lst ds.reverse) ρ1
  | _ => False
theorem simORev {t : TE} {f : T3E} (h : SimE K t f) : SimEO K (tRevL K t) (oRev f) := by
  intro F U ρ σ H Q3 Q2 e R q k
  refine h F U ρ σ H _ _ e R q fun r v ρ1 H1 R1 s1 q1 h1 => ?_
  subst e
  obtain ⟨d, e1, h1⟩ := wd_out h1
  cases d <;> first | exact h1.elim | skip
  obtain ⟨a, vs, rfl, z1, z2⟩ := q1.lst R1 e1
  refine ⟨a, vs, rfl, z1, fun p hp => ?_⟩
  obtain ⟨R2, S2, P2⟩ := freshEO R1 (o := .lst vs.reverse) hp
  exact k (.lst _) p ρ1 _ R2 (s1.trans S2) (back_none s1 hp) ⟨vs.reverse, upd_same, RpAll.pres P2 _ _ z2.rev⟩ h1
/-- a lent slot does not hold what is newer than the frame -/
theorem rpF_nob {ds : List (Str × D)} : ∀ {vs : List (Str × V)}, RpF K H U ds vs → bxsF ds = [] := by
  induction ds with
  | nil => intro _ _; rfl
  | cons p ds ih =>
    intro vs h
    obtain ⟨k, d⟩ := p
    simp only [RpF] at h
    obtain ⟨v, r, e1, h1, h2⟩ := h
    cases d <;> first | exact ih h2 | (simp only [Rp] at h1)
theorem rp_reg {H0 : Hp} {U0 : US} {d : D} {b p : Addr} (r : Rp K H0 U0 d (.ref b)) (t : TopR K H U d b) (hp : d.reg b p) : ∃ o, H0 p = some o := by
  cases d <;> first | exact t.elim | skip
  · simp only [Rp] at r; obtain ⟨a, vs, e, h1, _⟩ := r; cases e
    rcases hp with e | hp; (subst e; exact ⟨_, h1.1⟩); cases hp
  · simp only [Rp] at r; obtain ⟨a, vs, e, h1, _⟩ := r; cases e
    rcases hp with e | hp
    · subst e; rcases h1 with h1 | ⟨o, h1⟩ <;> exact ⟨_, h1⟩
    · cases hp
  · simp only [Rp] at r; obtain ⟨a, vs, e, h1, _⟩ := r; cases e
    rcases hp with e | hp
    · subst e; rcases h1 with h1 | ⟨o, h1⟩ <;> exact ⟨_, h1⟩
    · cases hp
  · simp only [Rp] at r; obtain ⟨a, dx, vs, e, h1, _, h2⟩ := r; cases e
    rcases hp with e | hp
    · subst e; exact ⟨_, h1⟩
    · have hp : p ∈ bxsF _ := hp
      rw [rpF_nob h2] at hp; cases hp
  · simp only [Rp] at r; obtain ⟨a, vs, e, h1, _⟩ := r; cases e
    rcases hp with e | hp
    · subst e; rcases h1 with h1 | ⟨o, h1⟩ <;> exact ⟨_, h1⟩
    · cases hp
theorem Rel.brwOld (R : Rel F U ρ σ H) {p b : Addr} (hn : F.H0 p = none) {j : Nat} {d : D} (h : ρ[j]? = some (.brw d)) (h2 : σ[j]? = some (some (.ref b))) (t : TopR F.K H U d b) (hp : d.reg b p) : False := by
  obtain ⟨l1, l2⟩ := R.lock j _ _ h rfl
  rw [h2] at l2
  rcases R.b0 j d l1 with ⟨v, ev, r⟩ | ⟨c, eb, ho⟩
  · rw [← l2] at ev; cases ev
    obtain ⟨o, ho⟩ := rp_reg r t hp
    rw [hn] at ho; cases ho
  · rw [← l2] at eb; cases eb
    obtain ⟨o, ho⟩ := ho p hp
    rw [hn] at ho; cases ho
/-- a write to an object that nobody owns and nobody shares -/
theorem Rel.poke (R : Rel F U ρ σ H) {p : Addr} {o : HO} (no : ¬ Own ρ σ p) (hu : U p) (hn : F.H0 p = none) : Rel F U ρ σ (upd H p o) := by
  have P : Pres H U (upd H p o) U := fun x u h n => ⟨by rw [upd_ne (fun e => n (by rw [e]; exact hu))]; exact h, n⟩
  refine ⟨R.len, fun i s v h1 h2 => (R.slot i s v h1 h2).pres P fun x hx u => ⟨u, fun w hw => ?_⟩, fun i d v h1 h2 => ?_, R.inj, fun a h => ?_, fun a u h n => ?_, fun a u h => ?_, R.shar, R.up, R.new, R.lock, R.wu, R.b0, R.u0⟩
  · rw [upd_ne fun e : x = p => no ⟨i, s, v, h1, h2, e ▸ hx⟩]; exact hw
  · rcases R.bor i d v h1 h2 with ⟨v, e1, q⟩ | ⟨b, e1, q, n⟩
    · exact .inl ⟨v, e1, Rp.pres P d v q⟩
    · subst e1
      refine .inr ⟨b, rfl, q.pres P fun x hx o h => ?_, n⟩
      rw [upd_ne fun e : x = p => R.brwOld hn h1 h2 q (e ▸ hx)]; exact h
  · by_cases e : a = p
    · subst e; exact ⟨_, upd_same⟩
    · obtain ⟨o, h⟩ := R.tr a h
      exact ⟨o, by rw [upd_ne e]; exact h⟩
  · have na : a ≠ p := fun e => by subst e; rw [hn] at h; cases h
    rw [upd_ne na]; exact R.keep a u h n
  · by_cases e : a = p
    · subst e; exact ⟨_, upd_same⟩
    · obtain ⟨o, h⟩ := R.ktr a u h
      exact ⟨o, by rw [upd_ne e]; exact h⟩

/-! ### dict displays -/
def oDicE : T3O' := fun ρ Q => Q (.dic []) ρ
theorem simODicE : SimEO K tDNewK oDicE := by
  intro F U ρ σ H Q3 Q2 e R q k p hp
  obtain ⟨R2, S2, P2⟩ := freshEO R (o := .dK []) hp
  exact k (.dic []) p ρ _ R2 S2 hp ⟨[], upd_same, by simp only [RpK]⟩ q
/-- {'k': e, ..}: the keys texts -/
def dPairs : List (Str × T3E) → En → (List (Key × D) → En → Prop) → Prop
  | [], ρ, Q => Q [] ρ
  | (k, f) :: r, ρ, Q => f ρ fun x ρ1 => match x with
    | .val d => dPairs r ρ1 fun kvs ρ2 => Q ((.inr k, d) :: kvs) ρ2
    | _ => False
def mergeD (kvs : List (Key × D)) : List (Key × D) → List (Key × D)
  | [] => kvs
  | p :: r => mergeD (putD kvs p.1 p.2) r
theorem RpK.merge : ∀ {es : List (Key × D)} {ws : List (Key × V)} {ds : List (Key × D)} {vs : List (Key × V)}, RpK K H U es ws → RpK K H U ds vs → RpK K H U (mergeD ds es) (mergeK vs ws)
  | [], _, _, _, h, h' => by simp only [RpK] at h; subst h; exact h'
  | (k, d) :: es, _, ds, vs, h, h' => by
    simp only [RpK] at h
    obtain ⟨v, r, rfl, h1, h2⟩ := h
    show RpK K H U (mergeD (putD ds k d) es) (mergeK (putK vs k v) r)
    exact RpK.merge h2 (h'.put k h1)
def oDisp (ps : List (Str × T3E)) : T3O' := fun ρ Q => dPairs ps ρ fun kvs ρ1 => kvs.length ≤ 15 ∧ Q (.dic (mergeD [] kvs)) ρ1
inductive SimP (K : PySem.W.Frag) : List (TE × TE) → List (Str × T3E) → Prop
  | nil : SimP K [] []
  | cons {s : Str} {t : TE} {f : T3E} {r : List (TE × TE)} {r3 : List (Str × T3E)} : SimE K t f → SimP K r r3 → SimP K ((tC (.str s), t) :: r) ((s, f) :: r3)
theorem simPairs {r : List (TE × TE)} {r3 : List (Str × T3E)} (h : SimP K r r3) : ∀ (F : Fr) (U : US) (ρ : En) (σ : St) (H : Hp) (Q3 : List (Key × D) → En → Prop) (Q2 : List (V × V) → Hp → Prop), F.K = K → Rel F U ρ σ H → dPairs r3 ρ Q3 →
    (∀ kvs ws ρ' H', Rel F U ρ' σ H' → Stp ρ σ H ρ' H' → RpK F.K H' U kvs ws → Q3 kvs ρ' → Q2 (ws.map fun kv => (kV kv.1, kv.2)) H') → tPairs r σ H Q2 := by
  induction h with
  | nil => exact fun F U ρ σ H Q3 Q2 e R q k => k [] [] ρ H R (.refl R) (by simp only [RpK]) q
  | @cons s t f r r3 h _ ih =>
    intro F U ρ σ H Q3 Q2 e R q k
    refine h F U ρ σ H _ _ e R q fun x v ρ1 H1 R1 s1 q1 h1 => ?_
    cases x with
    | sl _ => exact h1.elim
    | bx _ _ _ => exact h1.elim
    | val d =>
      refine ih F U ρ1 σ H1 _ _ e R1 h1 fun kvs ws ρ2 H2 R2 s2 q2 h2 => ?_
      refine k ((.inr s, d) :: kvs) ((.inr s, v) :: ws) ρ2 H2 R2 (s1.trans s2) ?_ h2
      simp only [RpK]
      exact ⟨v, ws, rfl, Rp.pres (s2.pres R1) _ _ q1, q2⟩
theorem simODisp {r : List (TE × TE)} {r3 : List (Str × T3E)} (h : SimP K r r3) : SimEO K (tDisp r) (oDisp r3) := by
  intro F U ρ σ H Q3 Q2 e R q k p hp
  obtain ⟨R1, S1, P1⟩ := freshEO R (o := .dK []) hp
  refine simPairs h F _ ρ σ _ _ _ e R1 q fun kvs ws ρ2 H2 R2 s2 q2 h2 => ?_
  have no : ¬ Own ρ σ p := fun z => R.noU hp (R.ownU z)
  have e2 : H2 p = some (.dK []) := s2.keep p _ upd_same no
  have S2 : Stp ρ σ H ρ2 H2 := S1.trans s2
  refine ⟨e2, ws, rfl, by rw [q2.len]; exact h2.1, ?_⟩
  have no2 : ¬ Own ρ2 σ p := fun z => no (s2.own p z)
  have Pw : Pres H2 (fun b => U b ∨ b = p) (upd H2 p (.dK (mergeK [] ws))) (fun b => U b ∨ b = p) := fun x o h n => ⟨by rw [upd_ne (fun e => n (.inr e))]; exact h, n⟩
  refine k (.dic (mergeD [] kvs)) p ρ2 _ ?_ ⟨fun x o h n => ?_, S2.own, fun x o h => ?_⟩ hp ⟨_, upd_same, RpK.pres Pw _ _ (q2.merge (by simp only [RpK]))⟩ h2.2
  · -- a write at p, which no slot owns
    exact R2.poke no2 (.inr rfl) (up_new R hp)
  · have nx : x ≠ p := fun e => by subst e; rw [hp] at h; cases h
    rw [upd_ne nx]; exact S2.keep x o h n
  · by_cases e : x = p
    · subst e; exact ⟨_, upd_same⟩
    · obtain ⟨o', h'⟩ := S2.tr x o h
      exact ⟨o', by rw [upd_ne e]; exact h'⟩

/-! ### the fields of an object -/
theorem RpF.get : ∀ {ds : List (Str × D)} {vs : List (Str × V)} {f : Str} {d : D}, RpF K H U ds vs → ds.lookup f = some d → ∃ v, vs.lookup f = some v ∧ Rp K H U d v
  | [], _, f, d, _, e => by cases e
  | (k, d') :: ds, _, f, d, h, e => by
    simp only [RpF] at h
    obtain ⟨v, r, rfl, h1, h2⟩ := h
    rw [List.lookup_cons] at e ⊢
    by_cases q : (f == k) = true
    · rw [q] at e ⊢; cases e; exact ⟨v, rfl, h1⟩
    · rw [Bool.eq_false_iff.mpr q] at e ⊢; exact RpF.get h2 e
theorem RpF.no : ∀ {ds : List (Str × D)} {vs : List (Str × V)} {f : Str}, RpF K H U ds vs → ds.lookup f = none → vs.lookup f = none
  | [], _, f, h, e => by simp only [RpF] at h; subst h; rfl
  | (k, d') :: ds, _, f, h, e => by
    simp only [RpF] at h
    obtain ⟨v, r, rfl, h1, h2⟩ := h
    rw [List.lookup_cons] at e ⊢
    by_cases q : (f == k) = true
    · rw [q] at e; cases e
    · rw [Bool.eq_false_iff.mpr q] at e ⊢; exact RpF.no h2 e
theorem RpF.len : ∀ {ds : List (Str × D)} {vs : List (Str × V)}, RpF K H U ds vs → vs.length = ds.length
  | [], _, h => by simp only [RpF] at h; rw [h]; rfl
  | (k, d) :: ds, _, h => by
    simp only [RpF] at h
    obtain ⟨v, r, rfl, _, h2⟩ := h
    rw [List.length_cons, List.length_cons, RpF.len h2]
/-- e.f -/
theorem RvF.no : ∀ {ds : List (Str × D)} {vs : List (Str × V)} {f : Str}, RvF K H U ds vs → ds.lookup f = none → vs.lookup f = none
  | [], _, _, h, _ => by simp only [RvF] at h; subst h; rfl
  | (k, d) :: ds, _, f, h, e => by
    simp only [RvF] at h
    obtain ⟨v, r, rfl, h1, h2⟩ := h
    rw [List.lookup_cons] at e ⊢
    cases hk : (f == k) with
    | true => rw [hk] at e; cases e
    | false => rw [hk] at e; exact RvF.no h2 e
def D.isBx : D → Bool
  | .bx _ _ => true
  | _ => false
theorem rv_rp {d : D} {v : V} (h : Rv K H U d v) (n : d.isBx = false) : Rp K H U d v := by
  cases d <;> first | exact h | cases n
def eFld (C : Addr) (f : Str) (g : T3E) : T3E := fun ρ Q => g ρ fun r ρ1 => wd r ρ1 fun d => match d with
  | .obj C' fs => C' = C ∧ wo (fs.lookup f) fun d => d.isBx = false ∧ Q (.val d) ρ1
  | _ => False
theorem simFld {C : Addr} {f : Str} {t : TE} {g : T3E} (c : Cls K C) (n : NoAttr K C f) (h : SimE K t g) : SimE K (tFld K t f) (eFld C f g) := by
  intro F U ρ σ H Q3 Q2 e R q k
  refine h F U ρ σ H _ _ e R q fun r v ρ1 H1 R1 s1 q1 h1 => ?_
  obtain ⟨d, e1, h1⟩ := wd_out h1
  cases d <;> first | exact h1.elim | skip
  obtain ⟨ec, h2⟩ := h1
  obtain ⟨d', ed, nb, h3⟩ := wo_out h2
  obtain ⟨a, dx, gs, rfl, z1, z2⟩ := q1.obj R1 e1
  obtain ⟨w, ew, rw'⟩ := z2.get ed
  exact ⟨a, _, dx, gs, w, rfl, z1, ec ▸ c, ec ▸ n, ew, k (.val d') w ρ1 H1 R1 s1 (rv_rp rw' nb) h3⟩
/-- .. that holds a box -/
def eFldB (C : Addr) (f : Str) (g : T3E) : T3E := fun ρ Q => g ρ fun r ρ1 => match r with
  | .sl i => wd r ρ1 fun d => match d with
    | .obj C' fs => C' = C ∧ wo (fs.lookup f) fun d => match d with
      | .bx b _ => Q (.bx i f b) ρ1
      | _ => False
    | _ => False
  | _ => False
theorem simFldB {C : Addr} {f : Str} {t : TE} {g : T3E} (c : Cls K C) (n : NoAttr K C f) (h : SimE K t g) : SimE K (tFld K t f) (eFldB C f g) := by
  intro F U ρ σ H Q3 Q2 e R q k
  refine h F U ρ σ H _ _ e R q fun r v ρ1 H1 R1 s1 q1 h1 => ?_
  cases r <;> first | exact h1.elim | skip
  rename_i i
  obtain ⟨d, e1, h1⟩ := wd_out h1
  cases d <;> first | exact h1.elim | skip
  obtain ⟨ec, h2⟩ := h1
  obtain ⟨d', ed, h3⟩ := wo_out h2
  cases d' <;> first | exact h3.elim | skip
  rename_i b db
  obtain ⟨a, dx, gs, rfl, z1, z2⟩ := q1.obj R1 e1
  obtain ⟨w, ew, rw'⟩ := z2.get ed
  have hw : w = .ref b := rw'.1
  exact ⟨a, _, dx, gs, w, rfl, z1, ec ▸ c, ec ▸ n, ew, k (.bx i f b) w ρ1 H1 R1 s1 hw h3⟩
theorem RpF.put {f : Str} {d : D} {v : V} : ∀ {ds : List (Str × D)} {vs : List (Str × V)}, RpF K H U ds vs → Rp K H U d v → RpF K H U (putF' f d ds) (putF f v vs)
  | [], _, h, q => by simp only [RpF] at h; subst h; simp only [putF', putF, RpF]; exact ⟨v, [], rfl, q, rfl⟩
  | (k, d') :: ds, _, h, q => by
    simp only [RpF] at h
    obtain ⟨v', r, rfl, h1, h2⟩ := h
    by_cases e : k = f
    · simp only [putF', putF, if_pos e, RpF]; exact ⟨v, r, rfl, q, h2⟩
    · simp only [putF', putF, if_neg e, RpF]; exact ⟨v', _, rfl, h1, RpF.put h2 q⟩
/-- e.f = value, e an owned object -/
def sFldP (C : Addr) (f : Str) (fv fo : T3E) : T3S := fun E ρ => fv ρ fun r ρ1 => fo ρ1 fun o ρ2 => match r with
  | .val d => ww o ρ2 fun dx up => match dx with
    | .obj C' fs => C' = C ∧ fs.length < 1000 ∧ E.nx (up (.obj C' (putF' f d fs)))
    | _ => False
  | _ => False
theorem simFldP {C : Addr} {f : Str} {tv to : TE} {fv fo : T3E} (c : Cls K C) (n : NoAttr K C f) (hv : SimE K tv fv) (ho : SimE K to fo) : SimS K (sFld K to tv f) (sFldP C f fv fo) := by
  intro F U ρ σ H D3 D2 e R q k
  refine hv F U ρ σ H _ _ e R q fun r v ρ1 H1 R1 s1 q1 h1 => ?_
  refine ho F U ρ1 σ H1 _ _ e R1 h1 fun o vo ρ2 H2 R2 s2 q2 h2 => ?_
  cases r with
  | sl _ => exact h2.elim
  | bx _ _ _ => exact h2.elim
  | val d =>
    obtain ⟨dl, up, a, rfl, u, t', wr, h3⟩ := ww_out R2 q2 h2
    cases dl <;> first | exact h3.elim | skip
    rename_i C' fs
    obtain ⟨ec, h4, h5⟩ := h3
    obtain ⟨dx, gs, z1, z2⟩ := t'
    have rd : Rp F.K H2 U d v := Rp.pres (s2.pres R1) _ _ q1
    have z3 : RpF F.K (upd H2 a (.ins C' dx (putF f v gs))) U (putF' f d fs) (putF f v gs) := RpF.pres (pres_w R2 u) _ _ (z2.put rd)
    obtain ⟨R', S'⟩ := wr (d' := .obj C' (putF' f d fs)) ⟨dx, _, upd_same, z3⟩
    exact ⟨a, C', dx, gs, rfl, z1, ec ▸ c, ec ▸ n, by rw [z2.len]; exact h4, k.nx _ _ _ _ R' h5⟩

/-! ### a new object; a method -/
theorem old_ins {x dx : Addr} {C : Addr} {ho : HO} (hx : H x = none) (hd : H dx = none) {a : Addr} {u : HO} (h : H a = some u) : a ≠ x ∧ upd (upd H dx ho) x (.ins C dx []) a = some u := by
  have nx : a ≠ x := fun e => by subst e; rw [hx] at h; cases h
  have nd : a ≠ dx := fun e => by subst e; rw [hd] at h; cases h
  exact ⟨nx, by rw [upd_ne nx, upd_ne nd]; exact h⟩
/-- the receiver's mode: par or pab -/
theorem wm_cons {m0 : Md} {d0 : D} {v0 : V} {ms : List Md} {ds : List D} {vs : List V} {x : Addr} : Wm (m0 :: ms) (d0 :: ds) (v0 :: vs) x ↔ (m0.sl d0).reg (some v0) x ∨ Wm ms ds vs x := by
  constructor
  · rintro ⟨i, m, d, v, h1, h2, h3, h4⟩
    cases i with
    | zero => cases h1; cases h2; cases h3; exact .inl h4
    | succ i => exact .inr ⟨i, m, d, v, by simpa using h1, by simpa using h2, by simpa using h3, h4⟩
  · rintro (h | ⟨i, m, d, v, h1, h2, h3, h4⟩)
    · exact ⟨0, m0, d0, v0, rfl, rfl, rfl, h⟩
    · exact ⟨i + 1, m, d, v, by simpa using h1, by simpa using h2, by simpa using h3, h4⟩
theorem reg_obj0 {m : Md} {C x y : Addr} (h : (m.sl (.obj C [])).reg (some (.ref x)) y) : y = x := by
  rcases h.2 with h | h
  · cases h; rfl
  · cases m <;> cases h
theorem After.tail {m0 : Md} {ms : List Md} {vs : List V} {x dx : Addr} {C : Addr} {U' : US} {o : D} {ds ds' : List D} {ho : HO} (hx : H x = none) (hd : H dx = none) (hu : ∀ a, U a → ∃ o, H a = some o) (hw : ∀ a, Wm ms ds vs a → U a)
    (A : After K (upd (upd H dx ho) x (.ins C dx [])) (fun b => U b ∨ b = x) (m0 :: ms) (.obj C [] :: ds) (.ref x :: vs) H' U' (o :: ds')) : After K H U ms ds vs H' U' ds' := by
  have nW : ∀ a, H a ≠ none → ¬ Wm ms ds vs a → ¬ Wm (m0 :: ms) (.obj C [] :: ds) (.ref x :: vs) a := fun a h n w => by
    rcases wm_cons.mp w with z | z
    · have := reg_obj0 z
      subst this; exact h hx
    · exact n z
  refine ⟨Nat.succ.inj A.len, fun a u h n => A.keep a u (old_ins hx hd h).2 (nW a (by rw [h]; simp) n), fun a u h => A.ktr a u (old_ins hx hd h).2, fun a u h n => A.shar a u (old_ins hx hd h).2 fun z => z.elim n (old_ins (C := C) (ho := ho) hx hd h).1,
    fun a h n => A.up a (.inl h) (nW a (by obtain ⟨o, e⟩ := hu a h; rw [e]; simp) n), A.tr, fun i m v d h1 w h2 h3 => A.par (i + 1) m v d (by simpa using h1) w (by simpa using h2) (by simpa using h3), fun y hy => ?_, fun i j m m' d d' v v' y h1 h2 h3 h4 h5 h6 h7 h8 => ?_⟩
  · rcases A.reg y (wm_cons.mpr (.inr hy)) with z | z
    · rcases wm_cons.mp z with z | z
      · exact .inr (by rw [reg_obj0 z]; exact hx)
      · exact .inl z
    · refine .inr ?_
      cases e : H y with
      | none => rfl
      | some u => rw [(old_ins hx hd e).2] at z; cases z
  · exact Nat.succ.inj (A.inj (i + 1) (j + 1) m m' d d' v v' y (by simpa using h1) (by simpa using h2) (by simpa using h3) (by simpa using h4) (by simpa using h5) (by simpa using h6) h7 h8)
def oMake (C : Addr) (ms : List Md) (sp : S3) (g : T3A) : T3O' := fun ρ Q => g ρ fun rs ρ1 => apart ms rs = true ∧ wo (argsD ms rs ρ1) fun ds => sp (.obj C [] :: ds) (fun r ds' => r.isNon = true ∧ match ds' with
  | o :: ds'' => Q o (updE ms rs ds'' ρ1)
  | [] => False) (fun _ _ => False)
theorem isNon_rp {d : D} {v : V} (h : d.isNon = true) (r : Rp K H U d v) : v = .non := by
  cases d <;> first | (simp only [Rp] at r; exact r) | cases h
/-- the arguments of a making -/
theorem make_args (R : Rel F U ρ σ H) {m0 : Md} {ms : List Md} {rs : List Rs} {vs : List V} {ds : List D} (mw : m0.isW = true) (AO : ArgsOk F.K H U ms ds vs) (own : ∀ a, Wm ms ds vs a → Own ρ σ a) {x dx C : Addr} (hx : H x = none) (hd : H dx = none) :
    ArgsOk F.K (upd (upd H dx (.own x)) x (.ins C dx [])) (fun b => U b ∨ b = x) (m0 :: ms) (.obj C [] :: ds) (.ref x :: vs) := by
  have P : Pres H U (upd (upd H dx (.own x)) x (.ins C dx [])) (fun b => U b ∨ b = x) := fun a u h n => ⟨(old_ins hx hd h).2, fun z => z.elim n (old_ins (C := C) (ho := .own x) hx hd h).1⟩
  have wx : ∀ a, Wm ms ds vs a → a ≠ x := fun a w e => by
    subst e
    obtain ⟨o, ho⟩ := R.tr a (R.ownU (own a w))
    rw [hx] at ho; cases ho
  refine ⟨congrArg (· + 1) AO.l1, congrArg (· + 1) AO.l2, fun i m d v e1 e2 e3 => ?_, fun i j m m' d d' v v' y h1 h2 h3 h4 h5 h6 h7 h8 => ?_, fun a z => ?_⟩
  · cases i with
    | zero =>
      cases e1; cases e2; cases e3
      cases m0 <;> first | (cases mw; done) | exact ⟨x, rfl, .inr rfl, dx, [], upd_same, by simp only [RpF]⟩ | exact ⟨x, rfl, .inr rfl, dx, [], upd_same, by simp only [OvF], by simp [bxsF]⟩
    | succ i =>
      have z := AO.ok i m d v (by simpa using e1) (by simpa using e2) (by simpa using e3)
      have wr : SlotOk F.K H U (m.sl d) (some v) → SlotOk F.K (upd (upd H dx (.own x)) x (.ins C dx [])) (fun b => U b ∨ b = x) (m.sl d) (some v) := fun z => z.pres P fun y _ u => ⟨.inl u, fun o h => (old_ins hx hd h).2⟩
      cases m with
      | shr => exact Rp.pres P _ _ z
      | brw =>
        rcases z with z | ⟨a, ea, t, nw⟩
        · exact .inl (Rp.pres P _ _ z)
        · refine .inr ⟨a, ea, t.pres P fun y _ o h => (old_ins hx hd h).2, fun y hy w => ?_⟩
          rcases wm_cons.mp w with w | w
          · have := reg_obj0 w
            subst this
            obtain ⟨o, ho⟩ := t.some y hy
            rw [hx] at ho; cases ho
          · exact nw y hy w
      | par => exact wr z
      | pab => exact wr z
  · cases i with
    | zero =>
      cases h1; cases h3; cases h5
      cases j with
      | zero => rfl
      | succ j => exact absurd (reg_obj0 h7) (wx y ⟨j, m', d', v', by simpa using h2, by simpa using h4, by simpa using h6, h8⟩)
    | succ i =>
      cases j with
      | zero =>
        cases h2; cases h4; cases h6
        exact absurd (reg_obj0 h8) (wx y ⟨i, m, d, v, by simpa using h1, by simpa using h3, by simpa using h5, h7⟩)
      | succ j => exact congrArg (· + 1) (AO.inj i j m m' d d' v v' y (by simpa using h1) (by simpa using h2) (by simpa using h3) (by simpa using h4) (by simpa using h5) (by simpa using h6) h7 h8)
  · rcases z with z | z
    · obtain ⟨o, ho⟩ := R.tr a z
      exact ⟨o, (old_ins hx hd ho).2⟩
    · subst z; exact ⟨_, upd_same⟩
theorem simOMake {C : Addr} {E : XK} {ms : List Md} {sp : S3} {u : TA} {g : T3A} (np : noPab ms = true) (h : SimA K u g) : SimEO K (tMake C (Lift K (.par :: ms) sp) [] E u) (oMake C ms sp g) := by
  intro F U ρ σ H Q3 Q2 e R q k
  refine h F U ρ σ H _ _ e R q fun rs vs ρ1 H1 R1 s1 q1 ⟨ap, h1⟩ => ?_
  obtain ⟨ds, ed, h1⟩ := wo_out h1
  subst e
  obtain ⟨AO, own⟩ := args_ok R1 q1 ed ap
  intro x dx hx hd hne
  rw [List.append_nil]
  refine ⟨fun b => U b ∨ b = x, .obj C [] :: ds, _, _, make_args (rs := rs) R1 rfl AO own hx hd, h1, fun v H' U' d ds' A rp q => ?_, fun _ _ _ _ _ _ _ _ _ q => q.elim⟩
  obtain ⟨hnon, q⟩ := q
  refine ⟨isNon_rp hnon rp, ?_⟩
  cases ds' with
  | nil => exact q.elim
  | cons o ds'' =>
    have q : Q3 o (updE ms rs ds'' ρ1) := q
    obtain ⟨x', ex', ux, tx⟩ : SlotOk F.K H' U' (.par o) (some (.ref x)) := A.par 0 .par (.ref x) o rfl rfl rfl rfl
    cases ex'
    have A' := A.tail hx hd R1.tr fun a w => R1.ownU (own a w)
    have up := A'.upA AO (sameB_no np)
    obtain ⟨R2, S2⟩ := R1.afterS q1 ed ap (sameB_no np) A'
    have R3 : Rel F (fun b => U b ∨ b = x) (updE ms rs ds'' ρ1) σ H' := R2.shrink (fun b z => z.elim (up b) fun e => by rw [e]; exact ux) (fun b z n => .inl (R.up b z n)) fun a z => .inl (R1.ownU (S2.own a z))
    have p : Pres H' U' H' (fun b => U b ∨ b = x) := fun b o h n => ⟨h, fun z => n (z.elim (up b) fun e => by rw [e]; exact ux)⟩
    exact k o x _ _ R3 (s1.trans S2) (back_none s1 hx) (tx.pres p fun _ h => h) q
/-- o.m(..): ms tells the receiver first -/
def eMeth (C : Addr) (m : Str) (ms : List Md) (sp : S3) (fo : T3E) (g : T3A) : T3E := fun ρ Q => fo ρ fun r ρ1 => wd r ρ1 fun d => match d with
  | .obj C' fs => (C' = C ∧ fs.lookup m = none) ∧ g ρ1 fun rs ρ2 => apart ms (r :: rs) = true ∧ wo (argsD ms (r :: rs) ρ2) fun ds => sp ds (fun d ds' => Q (.val d) (updE ms (r :: rs) ds' ρ2)) (fun d ds' => Q (.val d) (updE ms (r :: rs) ds' ρ2))
  | _ => False
theorem simMeth {C : Addr} {m : Str} {E : XK} {ms : List Md} {sp : S3} {t : TE} {u : TA} {fo : T3E} {g : T3A} (np : noPab ms = true) (ho : SimE K t fo) (h : SimA K u g) : SimE K (tMeth C m (Lift K ms sp) [] E t u) (eMeth C m ms sp fo g) := by
  intro F U ρ σ H Q3 Q2 e R q k
  refine ho F U ρ σ H _ _ e R q fun r v ρ0 H0 R0 s0 q0 h0 => ?_
  obtain ⟨d, e1, h0⟩ := wd_out h0
  cases d <;> first | exact h0.elim | skip
  rename_i C' fs
  obtain ⟨⟨ec, hm⟩, h2⟩ := h0
  obtain ⟨a, dx, gs, rfl, z1, z2⟩ := q0.obj R0 e1
  refine ⟨a, dx, gs, rfl, ec ▸ z1, z2.no hm, ?_⟩
  refine h F U ρ0 σ H0 _ _ e R0 h2 fun rs vs ρ1 H1 R1 s1 q1 ⟨ap, h1⟩ => ?_
  obtain ⟨ds, ed, h1⟩ := wo_out h1
  subst e
  have q1 : RVs F U σ H1 (r :: rs) (.ref a :: vs) := .cons (q0.pres (s1.pres R0)) q1
  have s1 := s0.trans s1
  rw [List.append_nil]
  exact callN np R s1 R1 q1 ap ed h1 k E
/-- o.f, a property -/
def eProp (C : Addr) (md : Md) (sp : S3) (fo : T3E) : T3E := fun ρ Q => fo ρ fun r ρ1 => wd r ρ1 fun d => match d with
  | .obj C' fs => C' = C ∧ apart [md] [r] = true ∧ wo (argsD [md] [r] ρ1) fun ds => sp ds (fun d ds' => Q (.val d) (updE [md] [r] ds' ρ1)) (fun d ds' => Q (.val d) (updE [md] [r] ds' ρ1))
  | _ => False
theorem simProp {C : Addr} {E : XK} {md : Md} {sp : S3} {t : TE} {fo : T3E} (np : noPab [md] = true) (ho : SimE K t fo) : SimE K (tProp C (Lift K [md] sp) [] E t) (eProp C md sp fo) := by
  intro F U ρ σ H Q3 Q2 e R q k
  refine ho F U ρ σ H _ _ e R q fun r v ρ1 H1 R1 s1 q0 h0 => ?_
  obtain ⟨d, e1, h0⟩ := wd_out h0
  cases d <;> first | exact h0.elim | skip
  rename_i C' fs
  obtain ⟨ec, ap, h2⟩ := h0
  obtain ⟨ds, ed, h1⟩ := wo_out h2
  obtain ⟨a, dx, gs, rfl, z1, z2⟩ := q0.obj R1 e1
  refine ⟨a, dx, gs, rfl, ec ▸ z1, ?_⟩
  subst e
  have q1 : RVs F U σ H1 [r] [.ref a] := .cons q0 .nil
  exact callN np R s1 R1 q1 ap ed h1 k E
end
end L3

set_option Elab.async false
set_option linter.all false
set_option maxRecDepth 100000
namespace L3
open PySem PySem.Spec L2
open PyProof.Rows (b2i)
section
variable {F : Fr} {U U2 U' : US} {ρ ρ' ρ2 ρ3 ρ5 : En} {σ σ2 σ3 : L2.St} {H H' H2 H3 H5 : Hp} {K : PySem.W.Frag}

/-! ### comprehensions -/
def wipeE (ρ : En) : List Nat → En
  | [] => ρ
  | v :: vs => (wipeE ρ vs).set v .emp
def noW (ρ : En) (vs : List Nat) : Bool := vs.all fun v => match ρ[v]? with
  | some .emp => true
  | some (.shr _) => true
  | _ => false
def restE (ρ0 : En) : List Nat → En → En
  | [], ρ => ρ
  | v :: vs, ρ => match ρ0[v]? with
    | some s => (restE ρ0 vs ρ).set v s
    | none => restE ρ0 vs ρ
theorem wipeE_get (ρ : En) : ∀ (vs : List Nat) (j : Nat), (wipeE ρ vs)[j]? = if j ∈ vs then (ρ[j]?).map (fun _ => .emp) else ρ[j]?
  | [], j => by simp [wipeE]
  | v :: vs, j => by
    have hl : (wipeE ρ vs).length = ρ.length := by
      clear j
      induction vs with
      | nil => rfl
      | cons v vs ih => unfold wipeE; rw [List.length_set, ih]
    unfold wipeE
    by_cases e : v = j
    · subst e
      by_cases h : v < ρ.length
      · rw [List.getElem?_set_self (by rw [hl]; exact h)]
        simp [List.getElem?_eq_getElem h]
      · rw [List.getElem?_eq_none (by rw [List.length_set, hl]; omega)]
        simp [List.getElem?_eq_none (Nat.le_of_not_lt h)]
    · rw [List.getElem?_set_ne e, wipeE_get ρ vs j]
      have : (j ∈ v :: vs) = (j ∈ vs) := by simp [Ne.symm e]
      simp only [this]
theorem restE_len {ρ0 : En} : ∀ {vs : List Nat} {ρ : En}, (restE ρ0 vs ρ).length = ρ.length
  | [], _ => rfl
  | v :: vs, ρ => by
    unfold restE
    cases ρ0[v]? with
    | none => exact restE_len
    | some s => show ((restE ρ0 vs ρ).set v s).length = _; rw [List.length_set]; exact restE_len
theorem restE_get {ρ0 : En} : ∀ {vs : List Nat} {ρ : En} {j : Nat}, ρ.length = ρ0.length → (restE ρ0 vs ρ)[j]? = if j ∈ vs then ρ0[j]? else ρ[j]?
  | [], ρ, j, _ => by simp [restE]
  | v :: vs, ρ, j, hl => by
    unfold restE
    cases h : ρ0[v]? with
    | none =>
      show (restE ρ0 vs ρ)[j]? = _
      rw [restE_get hl]
      by_cases e : j = v
      · subst e
        have : ρ[j]? = none := List.getElem?_eq_none (by rw [hl]; exact List.getElem?_eq_none_iff.mp h)
        simp [h, this]
      · simp [e]
    | some s =>
      show ((restE ρ0 vs ρ).set v s)[j]? = _
      by_cases e : v = j
      · subst e
        rw [List.getElem?_set_self (by rw [restE_len, hl]; exact (List.getElem?_eq_some_iff.mp h).1)]
        simp [h]
      · rw [List.getElem?_set_ne e, restE_get hl]
        simp [Ne.symm e]
theorem noW_out {vs : List Nat} (h : noW ρ vs = true) {v : Nat} (hv : v ∈ vs) : ∃ s, ρ[v]? = some s ∧ s.locked = false ∧ s.isW = false ∧ (s = .emp ∨ ∃ d, s = .shr d) := by
  have := List.all_eq_true.mp h v hv
  cases e : ρ[v]? with
  | none => rw [e] at this; cases this
  | some s =>
    rw [e] at this
    cases s with
    | emp => exact ⟨.emp, rfl, rfl, rfl, .inl rfl⟩
    | shr d => exact ⟨.shr d, rfl, rfl, rfl, .inr ⟨d, rfl⟩⟩
    | _ => cases this
theorem wipe_idem {vs : List Nat} : wipe (wipe σ vs) vs = wipe σ vs := by
  apply List.ext_getElem?
  intro j
  rw [wipe_get, wipe_get]
  by_cases h : j ∈ vs
  · rw [if_pos h, if_pos h]
    cases σ[j]? <;> rfl
  · rw [if_neg h, if_neg h]
theorem Rel.wipe (R : Rel F U ρ σ H) : ∀ {vs : List Nat}, noW ρ vs = true → Rel F U (wipeE ρ vs) (L2.wipe σ vs) H
  | [], _ => R
  | v :: vs, h => by
    have h2 : noW ρ vs = true := by
      unfold noW at h ⊢
      rw [List.all_cons, Bool.and_eq_true] at h
      exact h.2
    have R2 := Rel.wipe R h2
    obtain ⟨s, hs, hl, _⟩ := noW_out h (List.mem_cons_self ..)
    have : ∃ s' : Sl, (wipeE ρ vs)[v]? = some s' ∧ s'.locked = false := by
      rw [wipeE_get, hs]
      by_cases e : v ∈ vs
      · rw [if_pos e]; exact ⟨.emp, rfl, rfl⟩
      · rw [if_neg e]; exact ⟨s, rfl, hl⟩
    obtain ⟨s', h3, h4⟩ := this
    exact R2.setEmp h3 h4
theorem Own_wipe {vs : List Nat} {a : Addr} (h : Own (wipeE ρ vs) (L2.wipe σ vs) a) : Own ρ σ a := by
  obtain ⟨j, s, o, h1, h2, h3⟩ := h
  rw [wipeE_get] at h1
  rw [wipe_get] at h2
  by_cases hj : j ∈ vs
  · rw [if_pos hj] at h1
    obtain ⟨s', _, e⟩ := Option.map_eq_some_iff.mp h1
    subst e
    exact absurd h3 (reg_noW rfl)
  · rw [if_neg hj] at h1 h2
    exact ⟨j, s, o, h1, h2, h3⟩
theorem wipe_out {vs : List Nat} (h : L2.wipe σ3 vs = L2.wipe σ vs) {j : Nat} (hj : j ∉ vs) : σ3[j]? = σ[j]? := by
  have := congrArg (·[j]?) h
  simp only [wipe_get, if_neg hj] at this
  exact this
theorem Rel.rest (R : Rel F U ρ σ H) (R5 : Rel F U ρ5 σ3 H5) (P : Pres H U H5 U) {vs : List Nat} (hw : L2.wipe σ3 vs = L2.wipe σ vs) (no : noW ρ vs = true) :
    Rel F U (restE ρ vs ρ5) σ H5 ∧ ∀ a, Own (restE ρ vs ρ5) σ a → Own ρ5 σ3 a := by
  have hl3 : σ3.length = σ.length := by
    have := congrArg List.length hw
    rwa [wipe_length, wipe_length] at this
  have hl : ρ5.length = ρ.length := by rw [R5.len, R.len, hl3]
  have own : ∀ a, Own (restE ρ vs ρ5) σ a → Own ρ5 σ3 a := fun a ⟨j, s, o, h1, h2, h3⟩ => by
    rw [restE_get hl] at h1
    by_cases hj : j ∈ vs
    · rw [if_pos hj] at h1
      obtain ⟨s', k1, _, k3, _⟩ := noW_out no hj
      rw [h1] at k1; cases k1
      exact absurd h3 (reg_noW k3)
    · rw [if_neg hj] at h1
      exact ⟨j, s, o, h1, by rw [wipe_out hw hj]; exact h2, h3⟩
  refine ⟨⟨by rw [restE_len, R5.len, hl3], fun j s o h1 h2 => ?_, fun j d o h1 h2 => ?_, fun i j s t o o' a h1 h2 h5 h6 h3 h4 => ?_, R5.tr, R5.keep, R5.ktr, R5.shar, R5.up, fun a h => R5.new a (own a h), fun j s l h1 h2 => ?_, R.wu, R.b0, R.u0⟩, own⟩
  · rw [restE_get hl] at h1
    by_cases hj : j ∈ vs
    · rw [if_pos hj] at h1
      obtain ⟨s', k1, _, _, k4⟩ := noW_out no hj
      rw [h1] at k1; cases k1
      rcases k4 with rfl | ⟨d, rfl⟩
      · trivial
      · obtain ⟨v, e, r⟩ := R.slot j _ o h1 h2
        exact ⟨v, e, Rp.pres P d v r⟩
    · rw [if_neg hj] at h1
      exact R5.slot j s o h1 (by rw [wipe_out hw hj]; exact h2)
  · rw [restE_get hl] at h1
    by_cases hj : j ∈ vs
    · rw [if_pos hj] at h1
      obtain ⟨s', k1, _, _, k4⟩ := noW_out no hj
      rw [h1] at k1; cases k1
      rcases k4 with k4 | ⟨d, k4⟩ <;> cases k4
    · rw [if_neg hj] at h1
      rcases R5.bor j d o h1 (by rw [wipe_out hw hj]; exact h2) with z | ⟨b, e, t, n⟩
      · exact .inl z
      · exact .inr ⟨b, e, t, fun x hx z => n x hx (own x z)⟩
  · have f : ∀ {j : Nat} {t : Sl}, (restE ρ vs ρ5)[j]? = some t → t.isW = true → ρ5[j]? = some t ∧ j ∉ vs := fun {j t} h1 h2 => by
      rw [restE_get hl] at h1
      by_cases hj : j ∈ vs
      · rw [if_pos hj] at h1
        obtain ⟨s', k1, _, k3, _⟩ := noW_out no hj
        rw [h1] at k1; cases k1
        rw [h2] at k3; cases k3
      · rw [if_neg hj] at h1; exact ⟨h1, hj⟩
    obtain ⟨g1, g2⟩ := f h1 h3.1
    obtain ⟨g3, g4⟩ := f h2 h4.1
    exact R5.inj i j s t o o' a g1 g3 (by rw [wipe_out hw g2]; exact h5) (by rw [wipe_out hw g4]; exact h6) h3 h4
  · rw [restE_get hl] at h1
    by_cases hj : j ∈ vs
    · rw [if_pos hj] at h1
      exact R.lock j s l h1 h2
    · rw [if_neg hj] at h1
      obtain ⟨z1, z2⟩ := R5.lock j s l h1 h2
      exact ⟨z1, by rw [← wipe_out hw hj]; exact z2⟩
def lcL (g : T3G) (tt : T3T) (te : T3E) (vs : List Nat) (Q : List D → En → Prop) : List D → List D → En → Prop
  | [], acc, ρ => Q acc ρ
  | x :: xs, acc, ρ => noW ρ vs = true ∧ g x (wipeE ρ vs) fun ρ2 => tt ρ2 fun b ρ3 =>
    if b = true then te ρ3 fun r ρ4 => match r with
      | .val d => acc.length < sizeLine ∧ lcL g tt te vs Q xs (acc ++ [d]) (restE ρ vs ρ4)
      | _ => False
    else lcL g tt te vs Q xs acc (restE ρ vs ρ3)
def oLc (w : T3I) (g : T3G) (tt : T3T) (te : T3E) (vs : List Nat) : T3O' := fun ρ Q => w ρ fun it ρ1 => lcL g tt te vs (fun ds ρ2 => okL ρ1 it.r ρ2 ∧ Q (.lst ds) (unlockE ρ1 it.r ρ2)) it.items [] (lockE ρ1 it.r)
theorem Own_unlockI {i : Nat} {a : Addr} (h : Own (unlockI ρ i ρ2) σ a) : Own ρ2 σ a ∨ Own ρ σ a := by
  by_cases w : ∃ s, ρ[i]? = some s ∧ s.isW = true
  · obtain ⟨s, h1, w⟩ := w
    rw [unlockI_w h1 w] at h
    obtain ⟨j, t, o, q1, q2, q3⟩ := h
    rcases set_get q1 with ⟨rfl, rfl, _⟩ | ⟨_, q1⟩
    · exact .inr ⟨i, _, o, h1, q2, q3⟩
    · exact .inl ⟨j, t, o, q1, q2, q3⟩
  · rw [unlockI_no fun s e => Bool.eq_false_iff.mpr fun z => w ⟨s, e, z⟩] at h
    exact .inl h
theorem Own_unlock {r : Rs} {a : Addr} (h : Own (unlockE ρ r ρ2) σ a) : Own ρ2 σ a ∨ Own ρ σ a := by
  cases r with
  | val d => exact .inl h
  | sl i => exact Own_unlockI h
  | bx i f b => exact Own_unlockI h
theorem simLc {wk : Bool} {wi : TI} {g : TG} {tt : TT} {te : TE} {vs ix : List Nat} {w3 : T3I} {g3 : T3G} {tt3 : T3T} {te3 : T3E} (hw : SimI K wk wi w3) (hg : SimG K wk g g3 ix) (ht : SimT K tt tt3) (he : SimE K te te3) (hix : ix.all (fun i => vs.contains i) = true) :
    SimEO K (tLc wi g tt te vs) (oLc w3 g3 tt3 te3 vs) := by
  have hix : ∀ i ∈ ix, i ∈ vs := fun i hi => by simpa using List.all_eq_true.mp hix i hi
  intro F U ρ σ H Q3 Q2 e R q k
  refine hw F U ρ σ H _ _ e R q fun J it ρ1 H1 R1 s1 jok h1 => ?_
  intro D hD
  have Rf := loopIn R1 it.r
  have noU1 : ¬ U D := R1.noU hD
  have Rg : Rel (F.at U (lockE ρ1 it.r) σ H1) (fun b => U b ∨ b = D) (lockE ρ1 it.r) σ (upd H1 D (.lst [])) := Rf.grow hD (ext_new hD) upd_same
  have noL : ¬ Own (lockE ρ1 it.r) σ D := fun z => noU1 (Rf.ownU z)
  let Fl : Fr := F.at U (lockE ρ1 it.r) σ H1
  have eK : Fl.K = K := e
  refine ⟨fun i m H' => m = it.items.length - i ∧ i ≤ it.items.length ∧ ∃ ρ' acc dacc, Rel Fl (fun b => U b ∨ b = D) ρ' σ H' ∧ H' D = some (.lst acc) ∧ RpAll F.K H' (fun b => U b ∨ b = D) dacc acc ∧ (∀ a, Own ρ' σ a → Own (lockE ρ1 it.r) σ a) ∧
    lcL g3 tt3 te3 vs (fun ds ρ2 => okL ρ1 it.r ρ2 ∧ Q3 (.lst ds) (unlockE ρ1 it.r ρ2)) (it.items.drop i) dacc ρ', ⟨_, rfl, Nat.zero_le _, lockE ρ1 it.r, [], [], Rg, upd_same, by simp only [RpAll], fun _ h => h, h1⟩, ?_⟩
  rintro i m H' ⟨rfl, hi, ρ', acc, dacc, R', hacc, racc, hown, q'⟩
  have jk := jok Fl (fun b => U b ∨ b = D) ρ' σ H' eK R' R'.pres0 (fun a o h n => R'.keep a o h n) i
  obtain ⟨j1, j2⟩ := jk
  have noD : ¬ Own ρ' σ D := fun z => noL (hown D z)
  by_cases hl : i < it.items.length
  · right
    obtain ⟨d, hd⟩ : ∃ d, it.items[i]? = some d := ⟨_, List.getElem?_eq_getElem hl⟩
    have ed : it.items.drop i = d :: it.items.drop (i + 1) := by
      rw [List.drop_eq_getElem_cons hl]
      congr 1
      rw [List.getElem?_eq_getElem hl] at hd
      exact Option.some.inj hd
    rw [ed] at q'
    obtain ⟨no, q'⟩ := q'
    obtain ⟨g1, g2⟩ := j1 d hd
    refine ⟨g1, fun H2 => ∃ ρ' acc dacc, Rel Fl (fun b => U b ∨ b = D) ρ' σ H2 ∧ H2 D = some (.lst acc) ∧ RpAll F.K H2 (fun b => U b ∨ b = D) dacc acc ∧ (∀ a, Own ρ' σ a → Own (lockE ρ1 it.r) σ a) ∧
      lcL g3 tt3 te3 vs (fun ds ρ2 => okL ρ1 it.r ρ2 ∧ Q3 (.lst ds) (unlockE ρ1 it.r ρ2)) (it.items.drop (i + 1)) dacc ρ', fun H2 z => ⟨it.items.length - (i + 1), by omega, rfl, hl, z⟩, fun x H3 hy => ?_⟩
    obtain ⟨ex, rx⟩ := g2 x H3 hy
    rw [← eK] at rx
    have Rx := R'.ext ex
    have Px : Pres H' (fun b => U b ∨ b = D) H3 (fun b => U b ∨ b = D) := fun a o h n => ⟨ex a o h, n⟩
    refine hg Fl (fun b => U b ∨ b = D) (wipeE ρ' vs) (L2.wipe σ vs) H3 d x _ _ eK (Rx.wipe no) rx q' fun ρ3 σ3 R3 o3 w3 q3 => ?_
    have w3 : L2.wipe σ3 vs = L2.wipe σ vs := (w3 vs hix).trans wipe_idem
    refine ⟨w3, ht Fl _ ρ3 σ3 H3 _ _ eK R3 q3 fun b ρ4 H4 R4 s4 q4 => ?_⟩
    have no3 : ¬ Own ρ3 σ3 D := fun z => noD (Own_wipe (o3 D z))
    have own3 : ∀ a, Own ρ3 σ3 a → Own (lockE ρ1 it.r) σ a := fun a z => hown a (Own_wipe (o3 a z))
    cases b with
    | false =>
      have P4 : Pres H3 (fun b => U b ∨ b = D) H4 (fun b => U b ∨ b = D) := s4.pres R3
      obtain ⟨R6, o6⟩ := Rx.rest R4 P4 w3 no
      exact ⟨_, acc, dacc, R6, s4.keep D _ (ex D _ hacc) no3, RpAll.pres P4 _ _ (RpAll.pres Px _ _ racc), fun a z => own3 a (s4.own a (o6 a z)), q4⟩
    | true =>
      refine he Fl _ ρ4 σ3 H4 _ _ eK R4 q4 fun r y ρ5 H5 R5 s5 q5 h5 => ?_
      have s45 := s4.trans s5
      have P5 : Pres H3 (fun b => U b ∨ b = D) H5 (fun b => U b ∨ b = D) := s45.pres R3
      obtain ⟨R6, o6⟩ := Rx.rest R5 P5 w3 no
      have own6 : ∀ a, Own (restE ρ' vs ρ5) σ a → Own (lockE ρ1 it.r) σ a := fun a z => own3 a (s45.own a (o6 a z))
      have no6 : ¬ Own (restE ρ' vs ρ5) σ D := fun z => noL (own6 D z)
      have racc5 := RpAll.pres P5 _ _ (RpAll.pres Px _ _ racc)
      cases r with
      | sl _ => exact h5.elim
      | bx _ _ _ => exact h5.elim
      | val d' =>
        have Pw : Pres H5 (fun b => U b ∨ b = D) (upd H5 D (.lst (acc ++ [y]))) (fun b => U b ∨ b = D) := fun a o h n => ⟨by rw [upd_ne (fun e => n (.inr e))]; exact h, n⟩
        refine ⟨acc, s45.keep D _ (ex D _ hacc) no3, by rw [racc5.len]; exact h5.1, restE ρ' vs ρ5, acc ++ [y], dacc ++ [d'], R6.poke no6 (.inr rfl) hD, upd_same, ?_, own6, h5.2⟩
        exact RpAll.pres Pw _ _ (racc5.app (.one q5))
  · left
    have e2 : i = it.items.length := by omega
    subst e2
    rw [List.drop_length] at q'
    obtain ⟨ok, q'⟩ := q'
    refine ⟨j2 (Nat.le_refl _), ?_⟩
    have Ro := loopOut R1 it.r R' ok
    refine k (.lst dacc) D _ H' Ro (s1.trans ⟨fun a o h n => R'.keep a o h fun z => n (Own_lockE R1 z), fun a z => ?_, fun a o h => R'.ktr a o h⟩) (back_none s1 hD) ⟨acc, hacc, racc⟩ q'
    rcases Own_unlock z with z | z
    · exact Own_lockE R1 (hown a z)
    · exact z
/-- the test of a comprehension without one -/
def fYes : T3T := fun ρ Q => Q true ρ

/-! ### t.index(x) -/
def tyTup (K : PySem.W.Frag) (x : V) (H : Hp) : Prop := ∃ a xs, x = .ref a ∧ (TupAt H a xs ∨ KT K a xs)
theorem ty_tup {X : Cx} : TyOk X "tuple" (tyTup X.K) := by
  intro pins σ H s x v I r ty
  obtain ⟨a, xs, rfl, h⟩ := ty
  cases r
  rcases h with ⟨o, hd, h⟩ | ⟨o, its, n, h1, h2, h3, h4, h5, h6⟩
  · obtain ⟨z1, z2⟩ := I.hok a _ h
    obtain ⟨_, its, _, ot, h3, h4, n, h5⟩ := z2
    rw [z1] at h3; cases h3
    refine ⟨⟨o, z1, h4⟩, fun b e => ?_⟩
    cases e
    exact ⟨o, z1, hd⟩
  · refine ⟨⟨o, I.kIn a o h1, h2⟩, fun b e => ?_⟩
    cases e
    exact ⟨o, I.kIn _ o h1, h3⟩
def rIndexT (K : PySem.W.Frag) : V → List V → Hp → VK → Prop := fun x xs H Q => ∃ (a : Addr) (y : V) (d : PyData) (ds : List PyData) (j : Nat) (z : PyData), x = V.ref a ∧ xs = [y] ∧ Dp K H (V.ref a) (.tuple ds) ∧ Dp K H y d ∧
  SeqAt.shaped (.tuple ds) = true ∧ SeqAt.shaped d = true ∧ ds[j]? = some z ∧ PyData.eqv z d = true ∧ (∀ (m : Nat) (z' : PyData), m < j → ds[m]? = some z' → PyData.eqv z' d = false) ∧ Q (.int (j : Nat)) H
theorem mt_indexT {X : Cx} (hu : X.A.units + 65 < cLine) : MtR X "tuple.index" (rIndexT X.K) := by
  intro pins s σ H x xs v us Q I rx rxs h
  obtain ⟨a, y, d, ds, j, z, rfl, rfl, hl, hy, sl, sd, hz, hzj, hno, q⟩ := h
  cases rx
  cases rxs with
  | cons ry rt =>
    rename_i uy ut
    cases rt
    obtain ⟨bs, r1⟩ := Dp.reads I d y uy hy ry
    have hxs : PyData.canLayAll0 ds = true := SeqAt.canLay_of_shaped sl
    have hroom : X.A.units + 1 + min (PyData.depthAll ds) d.depth < cLine := PyProof.Rows.room_in_shaped sd hu
    cases hl with
    | tup hs ha =>
      obtain ⟨its, rv, ⟨⟨cls, dd, data, sls⟩, ho, hc, n, hdt⟩, hlen⟩ := I.tuple hs
      simp only at hc hdt
      subst hc hdt
      obtain ⟨as, h4⟩ := Dp.readsAll I ds _ its ha rv
      have hn : its.length = ds.length := SeqAt.ReadsAll.length ds its as h4
      have hmap : its.map (SeqAt.readOf s.heap) = ds := SeqAt.readsAll_map ds its as hxs h4
      have hvl := rv.length
      have hsl := sizeLine_eq
      obtain ⟨hjd, _⟩ := List.getElem?_eq_some_iff.mp hz
      have hjl : j < its.length := by omega
      have hj : j < its.toArray.size := by simpa using hjl
      have at_ : ∀ (m : Nat) (hm : m < its.toArray.size) (z' : PyData), ds[m]? = some z' → SeqAt.readOf s.heap its.toArray[m] = z' := by
        intro m hm z' hz'
        have hml : m < its.length := by simpa using hm
        rw [← hmap, List.getElem?_map, List.getElem?_eq_getElem hml] at hz'
        have e1 : SeqAt.readOf s.heap its[m] = z' := Option.some.inj (show some (SeqAt.readOf s.heap its[m]) = some z' from hz')
        simpa using e1
      refine call_meets PySem.F.slot_tuple_index ⟨_, ho, rfl⟩ PySem.F.entry_tuple_index (PySem.F.args_tuple_index_2 _ _)
        (PySem.SeqAt.tuple_index2_found a its.toArray n dd sls uy (fun m => if h : m < its.toArray.size then PyData.eqv (SeqAt.readOf s.heap its.toArray[m]) d else false) j hj (Nat.zero_le _) hj ?_ ?_) ⟨ho, fun m hm => ?_, ?_⟩
      · show (if h : j < its.toArray.size then _ else _) = true
        rw [dif_pos hj, at_ j hj z hz]
        exact hzj
      · intro m hm _ hmj
        have hmd : m < ds.length := by omega
        have hz' : ds[m]? = some ds[m] := List.getElem?_eq_getElem hmd
        show (if h : m < its.toArray.size then _ else _) = false
        rw [dif_pos hm, at_ m hm _ hz']
        exact hno m _ hmj hz'
      · have := SeqAt.items_eqAt (vs := its.toArray) (show ReadsAll s.heap its.toArray.toList ds as from h4) r1 hxs (SeqAt.canLay_of_shaped sd) hroom _ (Array.getElem_mem hm)
        rw [dif_pos hm]
        exact this
      · exact ⟨.int (j : Nat), H, I.tok _, ⟨_, rfl⟩, q⟩
def eTIdx (f : T3E) (g : T3A) : T3E := fun ρ Q => f ρ fun r ρ1 => wd r ρ1 fun d => match d with
  | .tup ds => g ρ1 fun rs ρ2 => w1 rs ρ2 fun x => ((D.tup ds).shp = true ∧ x.shp = true) ∧ wo (ds.findIdx? fun z => D.eqv z x) fun j => Q (.val (.int (j : Nat))) ρ2
  | _ => False
theorem toPs_get : ∀ {ds : List D} {j : Nat}, (D.toPs ds)[j]? = (ds[j]?).map D.toP
  | [], j => by simp [D.toPs]
  | d :: ds, 0 => by simp [D.toPs]
  | d :: ds, j + 1 => by simp only [D.toPs, List.getElem?_cons_succ]; exact toPs_get
theorem oks_get : ∀ {ds : List D} {j : Nat} {d : D}, D.oks ds = true → ds[j]? = some d → d.ok = true
  | [], j, d, _, h => by simp at h
  | x :: ds, 0, d, h, e => by
    simp only [D.oks, Bool.and_eq_true] at h
    simp at e; subst e; exact h.1
  | x :: ds, j + 1, d, h, e => by
    simp only [D.oks, Bool.and_eq_true] at h
    exact oks_get h.2 (by simpa using e)
theorem tyTup_of {ds : List D} {v : V} (h : Rp K H U (.tup ds) v) : tyTup K v H := by
  simp only [Rp] at h
  obtain ⟨a, vs, rfl, h1, _⟩ := h
  rcases h1 with ⟨h1, _⟩ | h1
  · exact ⟨a, vs, rfl, .inl h1⟩
  · exact ⟨a, vs, rfl, .inr h1⟩
theorem simTIdx {t : TE} {u : TA} {f : T3E} {g : T3A} (h : SimE K t f) (h' : SimA K u g) : SimE K (tMG (tyTup K) (rIndexT K) t u) (eTIdx f g) := by
  intro F U ρ σ H Q3 Q2 e R q k
  refine h F U ρ σ H _ _ e R q fun r v ρ1 H1 R1 s1 q1 h1 => ?_
  obtain ⟨d, ed, h1⟩ := wd_out h1
  cases d <;> first | exact h1.elim | skip
  rename_i ds
  subst e
  obtain ⟨a, ws, rfl, z1, z2, z3⟩ := q1.tup R1 ed
  refine ⟨tyTup_of z3, h' F U ρ1 σ H1 _ _ rfl R1 h1 fun rs vs ρ2 H2 R2 s2 q2 h2 => ?_⟩
  obtain ⟨x, w, dx, rfl, rfl, q3, ex, ⟨o1, o2⟩, h2⟩ := w1_out q2 h2
  obtain ⟨j, ej, h2⟩ := wo_out h2
  have ok1 : (D.tup ds).ok = true := by
    have := o1; unfold D.shp at this; rw [Bool.and_eq_true] at this; exact this.1
  have ok2 : dx.ok = true := by
    have := o2; unfold D.shp at this; rw [Bool.and_eq_true] at this; exact this.1
  have oks : D.oks ds = true := by simpa only [D.ok] using ok1
  have dp1 : Dp F.K H2 (.ref a) (.tuple (D.toPs ds)) := by
    have := Rp.dp (.tup ds) (.ref a) ok1 (Rp.pres (s2.pres R1) _ _ z3)
    simpa only [D.toP] using this
  have dp2 := q3.dp R2 ex ok2
  obtain ⟨hj, hj2⟩ := List.findIdx?_eq_some_iff_getElem.mp ej
  have hg : ds[j]? = some ds[j] := List.getElem?_eq_getElem hj
  refine ⟨a, w, dx.toP, D.toPs ds, j, ds[j].toP, rfl, rfl, dp1, dp2, by simpa only [D.toP] using shp_shaped o1, shp_shaped o2, by rw [toPs_get, hg]; rfl, ?_, fun m z' hm hz => ?_, k (.val _) _ ρ2 H2 R2 (s1.trans s2) rvI h2⟩
  · rw [eqv_toP _ _ (oks_get oks hg) ok2]; exact hj2.1
  · rw [toPs_get] at hz
    obtain ⟨y, hy, rfl⟩ := Option.map_eq_some_iff.mp hz
    rw [eqv_toP _ _ (oks_get oks hy) ok2]
    have := hj2.2 m hm
    have e2 : ds[m]'(by omega) = y := by
      have := (List.getElem?_eq_some_iff.mp hy).2
      exact this
    rw [e2] at this
    exact Bool.not_eq_true _ |>.mp this

/-! ### operators of own classes -/
def rOwnI (K : PySem.W.Frag) (C : Addr) (sp : Sp) : R2 := fun x y H Q => ∃ a dx fs b C' dy gs, x = .ref a ∧ y = .ref b ∧ H a = some (.ins C dx fs) ∧ H b = some (.ins C' dy gs) ∧ PySem.W.notFirst K C (.ref C') = true ∧ sp [x, y] H Q E0
theorem op_ownI {X : Cx} {C g : Addr} {op : CmpOp} {k : Nat} {fd : FuncData} {ps : List Str} {sp : Sp} (hop : ∀ a b, compareOp op a b = richCompare op a b) (hs : PySem.W.findIn X.K (.ref C) (cmpInfo op).2.1 = some (some (.ref g))) (hf : PySem.W.isFn X.K (.ref g) = true)
    (Fn : FnOk X.prog X.w X.K X.mg X.base CX0 k g fd ps sp) (hb : Binds X.K fd ps []) (hr : Room k X.A) : OpR X (compareOp op) (rOwnI X.K C sp) := by
  intro pins s σ H x y v u Q I rx ry h
  obtain ⟨a, dx, fs, b, C', dy, gs, rfl, rfl, ha, hb', hn, q⟩ := h
  cases (show v = Value.ref a from rx)
  cases (show u = Value.ref b from ry)
  obtain ⟨mA, O, _⟩ := ins_get I.hok ha
  obtain ⟨od, J, _⟩ := O.look
  obtain ⟨mB, O', _⟩ := ins_get I.hok hb'
  obtain ⟨od', J', _⟩ := O'.look
  obtain ⟨m, hF⟩ := I.fr
  rw [hop]
  refine PySem.W.cmp_K (op := op) (tb := .ref C') hr.units0 hF I.ok.mod.kin J J'.type hn hs hf ?_
  refine wpAny_mono (run_fn (us := [.ref a, .ref b]) (vs := [.ref a, .ref b]) Fn hr hb .nil pass0 I (.cons rfl (.cons rfl .nil)) q) (fun w s' z => ?_) fun _ _ x => x
  obtain ⟨z', H', I', rz, qz⟩ := z
  exact SlX.cmpback rz ⟨z', H', I', rz, qz⟩
def oOwn (C : Addr) (ms : List Md) (sp : S3) (x y : Rs) (ρ : En) (Q : Rs → En → Prop) : Prop := wd x ρ fun dx => wd y ρ fun dy => match dx, dy with
  | .obj C' _, .obj C'' _ => (C' = C ∧ C'' = C) ∧ apart ms [x, y] = true ∧ wo (argsD ms [x, y] ρ) fun ds => sp ds (fun d ds' => Q (.val d) (updE ms [x, y] ds' ρ)) (fun d ds' => Q (.val d) (updE ms [x, y] ds' ρ))
  | _, _ => False
theorem simOwn {C : Addr} {ms : List Md} {sp : S3} (np : noPab ms = true) : SimR2 K (rOwnI K C (Lift K ms sp)) (oOwn C ms sp) := by
  intro F U ρ1 σ H1 x y rx ry Q3 Q2 e R1 hx hy h k
  obtain ⟨dx, ex, h1⟩ := wd_out h
  obtain ⟨dy, ey, h2⟩ := wd_out h1
  clear h h1
  cases dx <;> first | exact h2.elim | skip
  cases dy <;> first | exact h2.elim | skip
  obtain ⟨⟨e1, e2⟩, ap, h3⟩ := h2
  obtain ⟨ds, ed, h1⟩ := wo_out h3
  obtain ⟨a, da, ga, rfl, z1, z2⟩ := hx.obj R1 ex
  obtain ⟨b, db, gb, rfl, y1, y2⟩ := hy.obj R1 ey
  subst e
  refine ⟨a, da, ga, b, C, db, gb, rfl, rfl, e1 ▸ z1, e2 ▸ y1, by simp [PySem.W.notFirst], ?_⟩
  have q1 : RVs F U σ H1 [rx, ry] [.ref a, .ref b] := .cons hx (.cons hy .nil)
  exact callN np R1 (.refl R1) R1 q1 ap ed h1 k E0
/-- two readings of one operator -/
def rOr (r r' : R2) : R2 := fun x y H Q => r x y H Q ∨ r' x y H Q
theorem simOrL {r r' : R2} {f : Rs → Rs → En → (Rs → En → Prop) → Prop} (h : SimR2 K r f) : SimR2 K (fun x y H Q => r x y H Q ∨ r' x y H Q) f := fun F U ρ σ H x y rx ry Q3 Q2 e R h1 h2 q k => .inl (h F U ρ σ H x y rx ry Q3 Q2 e R h1 h2 q k)
theorem simOrR {r r' : R2} {f : Rs → Rs → En → (Rs → En → Prop) → Prop} (h : SimR2 K r' f) : SimR2 K (fun x y H Q => r x y H Q ∨ r' x y H Q) f := fun F U ρ σ H x y rx ry Q3 Q2 e R h1 h2 q k => .inr (h F U ρ σ H x y rx ry Q3 Q2 e R h1 h2 q k)
/-- isinstance(x, C), x an instance of the class at C itself -/
def cIsC (C : Addr) (rs : List Rs) (ρ : En) (Q : Rs → En → Prop) : Prop := match rs with
  | [x, y] => wd x ρ fun dx => wd y ρ fun dy => match dx, dy with
    | .obj C' _, .cls C'' => (C' = C ∧ C'' = C) ∧ Q (.val (.bl true)) ρ
    | _, _ => False
  | _ => False
theorem simIsC {C : Addr} : SimCR K (fun xs H Q => ∃ a dx fs, xs = [.ref a, .ref C] ∧ H a = some (.ins C dx fs) ∧ Q (.bl true) H) (cIsC C) := by
  intro F U ρ σ H vs rs Q3 Q2 e R q h k
  unfold cIsC at h
  split at h
  · rename_i x y
    cases q with
    | cons q1 qs =>
      cases qs with
      | cons q2 qs =>
        cases qs
        obtain ⟨dx, ex, h1⟩ := wd_out h
        obtain ⟨dy, ey, h2⟩ := wd_out h1
        clear h h1
        cases dx <;> first | exact h2.elim | skip
        cases dy <;> first | exact h2.elim | skip
        obtain ⟨⟨e1, e2⟩, h3⟩ := h2
        obtain ⟨a, da, ga, rfl, z1, z2⟩ := q1.obj R ex
        rcases q2.get R ey with z | ⟨b, _, z⟩
        · simp only [Rp] at z
          subst z
          exact ⟨a, da, ga, by rw [e2], e1 ▸ z1, k (.val _) _ ρ H R (.refl R) rvB h3⟩
        · exact z.elim
  · exact h.elim
theorem rp_cls {C : Addr} : ∀ H U, Rp K H U (.cls C) (.ref C) := fun H U => by simp only [Rp]
end
end L3

set_option Elab.async false
set_option linter.all false
set_option maxRecDepth 100000
namespace L3
open PySem PySem.Spec L2
open PyProof.Rows (b2i)

/-! ### syntax and its reading over data, in a family of contexts -/
structure QE {ι : Type} (K : PySem.W.Frag) (X : ι → Cx) (e : Expr) (f : T3E) : Prop where
  ex : ∃ t, (∀ i, PE (X i) e t) ∧ SimE K t f
structure QO {ι : Type} (K : PySem.W.Frag) (X : ι → Cx) (e : Expr) (f : T3O') : Prop where
  ex : ∃ t, (∀ i, PE (X i) e t) ∧ SimEO K t f
structure QT {ι : Type} (K : PySem.W.Frag) (X : ι → Cx) (e : Expr) (f : T3T) : Prop where
  ex : ∃ t, (∀ i, PT (X i) e t) ∧ SimT K t f
structure QW {ι : Type} (K : PySem.W.Frag) (X : ι → Cx) (e : Expr) (f : T3T) : Prop where
  ex : ∃ t, (∀ i, PW (X i) e t) ∧ SimT K t f
structure QA {ι : Type} (K : PySem.W.Frag) (X : ι → Cx) (es : List Expr) (f : T3A) : Prop where
  ex : ∃ t, (∀ i, PA (X i) es t) ∧ SimA K t f
structure QS {ι : Type} (K : PySem.W.Frag) (X : ι → Cx) (st : Stmt) (f : T3S) : Prop where
  ex : ∃ t, (∀ i, PS (X i) st t) ∧ SimS K t f
structure QB {ι : Type} (K : PySem.W.Frag) (X : ι → Cx) (st : List Stmt) (f : T3S) : Prop where
  ex : ∃ t, (∀ i, PSs (X i) st t) ∧ SimS K t f
structure QI {ι : Type} (K : PySem.W.Frag) (X : ι → Cx) (wk : Bool) (tg iter : Expr) (f : T3I) : Prop where
  ex : ∃ t, (∀ i, PI (X i) tg iter t) ∧ SimI K wk t f
structure QG {ι : Type} (K : PySem.W.Frag) (X : ι → Cx) (wk : Bool) (tg : Expr) (f : T3G) (ix : List Nat) : Prop where
  ex : ∃ t, (∀ i, PG (X i) tg t) ∧ SimG K wk t f ix
structure QGs {ι : Type} (K : PySem.W.Frag) (X : ι → Cx) (n : Nat) (tg : List Expr) (f : List D → En → (En → Prop) → Prop) (ix : List Nat) : Prop where
  ex : ∃ t, (∀ i, PGs (X i) tg t) ∧ SimGs K t f ix
structure QP {ι : Type} (K : PySem.W.Frag) (X : ι → Cx) (e : Option Expr) (f : T3O) : Prop where
  ex : ∃ t, (∀ i, PO (X i) e t) ∧ SimO K t f
structure QTs {ι : Type} (K : PySem.W.Frag) (X : ι → Cx) (es : List Expr) (f : T3T) : Prop where
  ex : ∃ t, (∀ i, PTs (X i) es t) ∧ SimT K t f

section
variable {ι : Type} {X : ι → Cx} {K : PySem.W.Frag} {pos p p2 apos cpos : Pos} {e a b c d' : Expr} {es rest : List Expr} {f g h : T3E} {x : Str}

/-! ### names and constants -/
theorem qv (n : Nat) (hN : ∀ i, (X i).N[n]? = some x := by exact fun _ => rfl) (hv : ∀ i, Vis (X i).env.scope x := by first | exact fun _ => Or.inl rfl | exact fun _ => Or.inr (Or.inl rfl) | exact fun _ => Or.inr (Or.inr rfl))
    (hd : (x == ("__debug__" : Str)) = false := by decide) (hcd : (x == ("__classdict__" : Str)) = false := by decide) : QE K X (.Name x pos) (eVar n) := ⟨_, fun i => pe_var (hN i) (hv i) hd hcd, simVar n⟩
theorem qint {i : Int} {j : Nat} : QE K X (.Constant (.int i) j pos) (eC (.int i)) := ⟨_, fun _ => pe_int, simC fun H U => rp_int⟩
theorem qbl {i : Bool} {j : Nat} : QE K X (.Constant (.bool i) j pos) (eC (.bl i)) := ⟨_, fun _ => pe_bl, simC fun H U => rp_bl⟩
theorem qstr {i : Str} {j : Nat} : QE K X (.Constant (.str i) j pos) (eC (.str i)) := ⟨_, fun _ => pe_str, simC fun H U => rp_str⟩
theorem qnon {j : Nat} : QE K X (.Constant .none j pos) (eC .non) := ⟨_, fun _ => pe_non, simC fun H U => rp_non⟩
/-- a name of the module -/
theorem qglob {v : V} {d : D} (hm : ∀ i, ∃ u, (X i).mg x = some u ∧ RelV v u) (hr : ∀ H U, Rp K H U d v) (hg : ∀ i, Gl (X i) x := by exact fun _ => rfl) (hd : (x == ("__debug__" : Str)) = false := by decide) : QE K X (.Name x pos) (eC d) :=
  ⟨tC v, fun i => let ⟨_, h1, h2⟩ := hm i; pe_glob (hg i) h1 h2 hd, simC hr⟩
/-- a built-in class as a value -/
theorem rp_ty {T : String} : ∀ H U, Rp K H U (.ty T) (.ty T) := fun H U => by simp only [Rp]
theorem qty {T : String} (hm : ∀ i, (X i).mg x = none) (hv : bootBuiltins x = some (.type T) := by decide +kernel) (hg : ∀ i, Gl (X i) x := by exact fun _ => rfl) (hn : x ≠ "__name__" := by decide) (hd : (x == ("__debug__" : Str)) = false := by decide) : QE K X (.Name x pos) (eC (.ty T)) :=
  ⟨tC (.ty T), fun i => pe_bltn (hg i) (hm i) hv rfl hn hd, simC rp_ty⟩

/-! ### operators -/
theorem qop {op : Operator} {r : R2} {r3 : Rs → Rs → En → (Rs → En → Prop) → Prop} (ho : ∀ i, OpR (X i) (binaryOp op) r) (hs : SimR2 K r r3) (ha : QE K X a f) (hb : QE K X b g) : QE K X (.BinOp a op b pos) (eOp r3 f g) :=
  let ⟨_, h1, h2⟩ := ha.ex; let ⟨_, h3, h4⟩ := hb.ex; ⟨_, fun i => pe_op (ho i) (h1 i) (h3 i), simOp hs h2 h4⟩
theorem qadd (ha : QE K X a f) (hb : QE K X b g) (hK : ∀ i, (X i).K = K := by exact fun _ => rfl) : QE K X (.BinOp a .Add b pos) (eOp oAdd f g) := qop (r := r2Add K) (fun i => hK i ▸ op_addP) simAdd ha hb
theorem qsub (ha : QE K X a f) (hb : QE K X b g) : QE K X (.BinOp a .Sub b pos) (eOp (oI0 fun i j => .int (i - j)) f g) := qop (fun _ => op_sub) (simI0 fun _ _ _ _ => rp_int) ha hb
theorem qmul (ha : QE K X a f) (hb : QE K X b g) : QE K X (.BinOp a .Mult b pos) (eOp oMul f g) := qop (fun _ => op_mulP) simMul ha hb
theorem qmod (ha : QE K X a f) (hb : QE K X b g) : QE K X (.BinOp a .Mod b pos) (eOp (oI (fun _ j => 0 < j) fun i j => .int (i % j)) f g) := qop (fun _ => op_mod) (simI fun _ _ _ _ => rp_int) ha hb
theorem qfdiv (ha : QE K X a f) (hb : QE K X b g) : QE K X (.BinOp a .FloorDiv b pos) (eOp (oI CDiv fun i j => .int (i / j)) f g) := qop (fun _ => op_fdiv) (simI fun _ _ _ _ => rp_int) ha hb
theorem qpow (ha : QE K X a f) (hb : QE K X b g) : QE K X (.BinOp a .Pow b pos) (eOp (oI CPow fun i j => .int (i ^ j.toNat)) f g) := qop (fun _ => op_pow) (simI fun _ _ _ _ => rp_int) ha hb
theorem qshr (ha : QE K X a f) (hb : QE K X b g) : QE K X (.BinOp a .RShift b pos) (eOp (oI (fun _ j => 0 ≤ j) fun i j => .int (i / 2 ^ j.toNat)) f g) := qop (fun _ => op_shr) (simI fun _ _ _ _ => rp_int) ha hb
theorem qand (ha : QE K X a f) (hb : QE K X b g) : QE K X (.BinOp a .BitAnd b pos) (eOp (oI0 fun i j => .int (Builtin.bitAnd i j)) f g) := qop (fun _ => op_and) (simI0 fun _ _ _ _ => rp_int) ha hb
/-! ### comparisons -/
theorem qcmp {op : CmpOp} {r : R2} {r3 : Rs → Rs → En → (Rs → En → Prop) → Prop} (ho : ∀ i, OpR (X i) (compareOp op) r) (hs : SimR2 K r r3) (ha : QE K X a f) (hb : QE K X b g) (hm : behindInMarks op b = false) : QE K X (.Compare a [op] [b] pos) (eOp r3 f g) :=
  let ⟨_, h1, h2⟩ := ha.ex; let ⟨_, h3, h4⟩ := hb.ex; ⟨_, fun i => pe_cmpR (ho i) (h1 i) (h3 i) hm, simOp hs h2 h4⟩
theorem tcmp {op : CmpOp} {r : R2} {r3 : Rs → Rs → En → (Rs → En → Prop) → Prop} (ho : ∀ i, OpR (X i) (compareOp op) r) (hs : SimR2 K r r3) (ha : QE K X a f) (hb : QE K X b g) (hm : behindInMarks op b = false) : QT K X (.Compare a [op] [b] pos) (fTst (eOp r3 f g)) :=
  let ⟨_, h1, h2⟩ := ha.ex; let ⟨_, h3, h4⟩ := hb.ex; ⟨_, fun i => pt_cmpR (ho i) (h1 i) (h3 i) hm, simTst (simOp hs h2 h4)⟩
/-- a comparison's operator: its rule and its reading -/
structure QC {ι : Type} (K : PySem.W.Frag) (X : ι → Cx) (op : CmpOp) (r3 : Rs → Rs → En → (Rs → En → Prop) → Prop) : Prop where
  ex : ∃ r, (∀ i, OpR (X i) (compareOp op) r) ∧ SimR2 K r r3
abbrev oLt := oI0 fun i j => .bl (decide (i < j))
abbrev oLe := oI0 fun i j => .bl (decide (i ≤ j))
abbrev oGt := oI0 fun i j => .bl (decide (j < i))
abbrev oGe := oI0 fun i j => .bl (decide (j ≤ i))
theorem cLt : QC K X .Lt oLt := ⟨_, fun _ => op_lt, simI0 fun _ _ _ _ => rp_bl⟩
theorem cLe : QC K X .LtE oLe := ⟨_, fun _ => op_le, simI0 fun _ _ _ _ => rp_bl⟩
theorem cGt : QC K X .Gt oGt := ⟨_, fun _ => op_gt, simI0 fun _ _ _ _ => rp_bl⟩
theorem cGe : QC K X .GtE oGe := ⟨_, fun _ => op_ge, simI0 fun _ _ _ _ => rp_bl⟩
theorem hu65 {A : Around} {k : Nat} (hr : Room k A) : A.units + 65 < cLine := by have := hr.un; omega
theorem cEq {k : Nat} (hR : ∀ i, Room k (X i).A) (hK : ∀ i, (X i).K = K := by exact fun _ => rfl) : QC K X .Eq (oEq false) := ⟨rEqD K, fun i => hK i ▸ op_eqD (hR i).units, simEq⟩
theorem cNe {k : Nat} (hR : ∀ i, Room k (X i).A) (hK : ∀ i, (X i).K = K := by exact fun _ => rfl) : QC K X .NotEq (oEq true) := ⟨rNeD K, fun i => hK i ▸ op_neD (hR i).units, simNe⟩
theorem cIn {k : Nat} (hR : ∀ i, Room k (X i).A) (hK : ∀ i, (X i).K = K := by exact fun _ => rfl) : QC K X .In (oIn false) := ⟨rInS K false, fun i => hK i ▸ op_inS (hu65 (hR i)), simIn false⟩
theorem cNotIn {k : Nat} (hR : ∀ i, Room k (X i).A) (hK : ∀ i, (X i).K = K := by exact fun _ => rfl) : QC K X .NotIn (oIn true) := ⟨rInS K true, fun i => hK i ▸ op_notInS (hu65 (hR i)), simIn true⟩
theorem cInT : QC K X .In (oInT false) := ⟨_, fun _ => op_inT, simInT false⟩
theorem cNotInT : QC K X .NotIn (oInT true) := ⟨_, fun _ => op_notInT, simInT true⟩
theorem cIsN : QC K X .Is (oIsN false) := ⟨_, fun _ => op_isN, simIsN⟩
theorem cNotN : QC K X .IsNot (oIsN true) := ⟨_, fun _ => op_notN, simNotN⟩
theorem q2 {op : CmpOp} {r3 : Rs → Rs → En → (Rs → En → Prop) → Prop} (ho : QC K X op r3) (ha : QE K X a f) (hb : QE K X b g) (hm : behindInMarks op b = false := by first | exact nomark _ | rfl) : QE K X (.Compare a [op] [b] pos) (eOp r3 f g) :=
  let ⟨_, h1, h2⟩ := ho.ex; qcmp h1 h2 ha hb hm
theorem t2 {op : CmpOp} {r3 : Rs → Rs → En → (Rs → En → Prop) → Prop} (ho : QC K X op r3) (ha : QE K X a f) (hb : QE K X b g) (hm : behindInMarks op b = false := by first | exact nomark _ | rfl) : QT K X (.Compare a [op] [b] pos) (fTst (eOp r3 f g)) :=
  let ⟨_, h1, h2⟩ := ho.ex; tcmp h1 h2 ha hb hm
theorem q3c {op op' : CmpOp} {r3 r3' : Rs → Rs → En → (Rs → En → Prop) → Prop} (ho : QC K X op r3) (ho' : QC K X op' r3') (ha : QE K X a f) (hb : QE K X b g) (hc : QE K X c h) (hm : lastMarks [op, op'] [b, c] = false := by with_unfolding_all rfl) :
    QE K X (.Compare a [op, op'] [b, c] pos) (eChain r3 r3' f g h) :=
  let ⟨_, h1, h2⟩ := ho.ex; let ⟨_, h1', h2'⟩ := ho'.ex; let ⟨_, h3, h4⟩ := ha.ex; let ⟨_, h5, h6⟩ := hb.ex; let ⟨_, h7, h8⟩ := hc.ex
  ⟨_, fun i => pe_chain (h1 i) (h1' i) (h3 i) (h5 i) (h7 i) hm, simChain h2 h2' h4 h6 h8⟩
theorem t3c {op op' : CmpOp} {r3 r3' : Rs → Rs → En → (Rs → En → Prop) → Prop} (ho : QC K X op r3) (ho' : QC K X op' r3') (ha : QE K X a f) (hb : QE K X b g) (hc : QE K X c h) (hm : lastMarks [op, op'] [b, c] = false := by with_unfolding_all rfl) :
    QT K X (.Compare a [op, op'] [b, c] pos) (fTst (eChain r3 r3' f g h)) :=
  let ⟨_, h1, h2⟩ := ho.ex; let ⟨_, h1', h2'⟩ := ho'.ex; let ⟨_, h3, h4⟩ := ha.ex; let ⟨_, h5, h6⟩ := hb.ex; let ⟨_, h7, h8⟩ := hc.ex
  ⟨_, fun i => pt_chain (h1 i) (h1' i) (h3 i) (h5 i) (h7 i) hm, simTst (simChain h2 h2' h4 h6 h8)⟩
/-- k in d, d a dict -/
theorem qdin {k : Nat} (hR : ∀ i, Room k (X i).A) (hi : QE K X a f) (ho : QE K X b g) (hm : behindInMarks .In b = false := by rfl) : QE K X (.Compare a [.In] [b] pos) (fDIn false f g) :=
  let ⟨_, h1, h2⟩ := hi.ex; let ⟨_, h3, h4⟩ := ho.ex; ⟨_, fun i => pe_cmp (pc_din (hu_of (hR i)) (h1 i) (h3 i)) hm, simDIn h4 h2⟩
theorem qdnotin {k : Nat} (hR : ∀ i, Room k (X i).A) (hi : QE K X a f) (ho : QE K X b g) (hm : behindInMarks .NotIn b = false := by rfl) : QE K X (.Compare a [.NotIn] [b] pos) (fDIn true f g) :=
  let ⟨_, h1, h2⟩ := hi.ex; let ⟨_, h3, h4⟩ := ho.ex; ⟨_, fun i => pe_cmp (pc_dnotin (hu_of (hR i)) (h1 i) (h3 i)) hm, simDNotIn h4 h2⟩
theorem tdin {k : Nat} (hR : ∀ i, Room k (X i).A) (hi : QE K X a f) (ho : QE K X b g) (hm : behindInMarks .In b = false := by rfl) : QT K X (.Compare a [.In] [b] pos) (fTst (fDIn false f g)) :=
  let ⟨_, h1, h2⟩ := hi.ex; let ⟨_, h3, h4⟩ := ho.ex; ⟨_, fun i => pt_cmp (pc_din (hu_of (hR i)) (h1 i) (h3 i)) hm, simTB (simDIn h4 h2)⟩
theorem tdnotin {k : Nat} (hR : ∀ i, Room k (X i).A) (hi : QE K X a f) (ho : QE K X b g) (hm : behindInMarks .NotIn b = false := by rfl) : QT K X (.Compare a [.NotIn] [b] pos) (fTst (fDIn true f g)) :=
  let ⟨_, h1, h2⟩ := hi.ex; let ⟨_, h3, h4⟩ := ho.ex; ⟨_, fun i => pt_cmp (pc_dnotin (hu_of (hR i)) (h1 i) (h3 i)) hm, simTB (simDNotIn h4 h2)⟩

/-! ### and, or, not, if -/
theorem q1b {op : BoolOp} (ha : QE K X a f) : QE K X (.BoolOp op [a] pos) f := let ⟨_, h1, h2⟩ := ha.ex; ⟨_, fun i => pe_one (h1 i), h2⟩
theorem qAnd (ha : QE K X a f) (hb : QE K X (.BoolOp .And (b :: rest) pos) g) (hK : ∀ i, (X i).K = K := by exact fun _ => rfl) : QE K X (.BoolOp .And (a :: b :: rest) pos) (eAnd f g) :=
  let ⟨t, h1, h2⟩ := ha.ex; let ⟨u, h3, h4⟩ := hb.ex; ⟨tAndT K t u, fun i => hK i ▸ pe_andT (h1 i) (h3 i), simAndV h2 h4⟩
theorem qOr (ha : QE K X a f) (hb : QE K X (.BoolOp .Or (b :: rest) pos) g) (hK : ∀ i, (X i).K = K := by exact fun _ => rfl) : QE K X (.BoolOp .Or (a :: b :: rest) pos) (eOr f g) :=
  let ⟨t, h1, h2⟩ := ha.ex; let ⟨u, h3, h4⟩ := hb.ex; ⟨tOrT K t u, fun i => hK i ▸ pe_orT (h1 i) (h3 i), simOrV h2 h4⟩
theorem qNot (ha : QE K X a f) (hK : ∀ i, (X i).K = K := by exact fun _ => rfl) : QE K X (.UnaryOp .Not a pos) (eNot f) :=
  let ⟨t, h1, h2⟩ := ha.ex; ⟨tNotT K t, fun i => hK i ▸ pe_notT (h1 i), simNotV h2⟩
variable {ft gt : T3T}
/-- a value as a test: True or False; of any kind -/
theorem tval (ha : QE K X a f) (he : ∀ i whole, isTrue a (X i).env whole = (do let v ← whole; standAt a.pos; holding [v] (truthy v)) := by exact fun _ _ => rfl) : QT K X a (fTst f) := let ⟨_, h1, h2⟩ := ha.ex; ⟨_, fun i => pt_val (h1 i) (he i), simTB h2⟩
theorem ttru (ha : QE K X a f) (he : ∀ i whole, isTrue a (X i).env whole = (do let v ← whole; standAt a.pos; holding [v] (truthy v)) := by exact fun _ _ => rfl) (hK : ∀ i, (X i).K = K := by exact fun _ => rfl) : QT K X a (fTru f) :=
  let ⟨t, h1, h2⟩ := ha.ex; ⟨fun σ H Q => t σ H fun x H' => ∃ k, TruV K x H' k ∧ Q k H', fun i => hK i ▸ pt_truth (h1 i) (he i), simTru h2⟩
theorem tNot' (ha : QT K X a ft) : QT K X (.UnaryOp .Not a pos) (fNot ft) := let ⟨_, h1, h2⟩ := ha.ex; ⟨_, fun i => pt_not (h1 i), simNot h2⟩
theorem wa1 (ha : QT K X a ft) : QW K X (.BoolOp .And [a] pos) ft := let ⟨_, h1, h2⟩ := ha.ex; ⟨_, fun i => pw_and1 (h1 i), h2⟩
theorem wo1 (ha : QT K X a ft) : QW K X (.BoolOp .Or [a] pos) ft := let ⟨_, h1, h2⟩ := ha.ex; ⟨_, fun i => pw_or1 (h1 i), h2⟩
theorem wa (ha : QT K X a ft) (hb : QW K X (.BoolOp .And (b :: rest) pos) gt) : QW K X (.BoolOp .And (a :: b :: rest) pos) (fAnd ft gt) := let ⟨_, h1, h2⟩ := ha.ex; let ⟨_, h3, h4⟩ := hb.ex; ⟨_, fun i => pw_and (h1 i) (h3 i), simAnd h2 h4⟩
theorem wor (ha : QT K X a ft) (hb : QW K X (.BoolOp .Or (b :: rest) pos) gt) : QW K X (.BoolOp .Or (a :: b :: rest) pos) (fOr ft gt) := let ⟨_, h1, h2⟩ := ha.ex; let ⟨_, h3, h4⟩ := hb.ex; ⟨_, fun i => pw_or (h1 i) (h3 i), simOr h2 h4⟩
theorem QW.t (h : QW K X e ft) : QT K X e ft := let ⟨_, h1, h2⟩ := h.ex; ⟨_, fun i => (h1 i).pt, h2⟩
theorem qif (hc : QT K X c ft) (ha : QE K X a f) (hb : QE K X b g) : QE K X (.IfExp c a b pos) (eIf ft f g) := let ⟨_, h1, h2⟩ := hc.ex; let ⟨_, h3, h4⟩ := ha.ex; let ⟨_, h5, h6⟩ := hb.ex; ⟨_, fun i => pe_ifExp (h1 i) (h3 i) (h5 i), simIf h2 h4 h6⟩

/-! ### items, slices, displays -/
theorem qix (ha : QE K X a f) (hb : QE K X b g) (hs : PlainIx b := by exact fun _ _ => rfl) (hK : ∀ i, (X i).K = K := by exact fun _ => rfl) : QE K X (.Subscript a b pos) (eOp oIdx f g) :=
  let ⟨t, h1, h2⟩ := ha.ex; let ⟨u, h3, h4⟩ := hb.ex; ⟨tOp (rIx K) t u, fun i => hK i ▸ pe_ix ix_seq (h1 i) (h3 i) hs, simOp simIdx h2 h4⟩
theorem qdget {k : Nat} (hR : ∀ i, Room k (X i).A) (ha : QE K X a f) (hb : QE K X b g) (hs : NoSl b := by exact fun _ _ => rfl) : QE K X (.Subscript a b pos) (eDGet f g) :=
  let ⟨t, h1, h2⟩ := ha.ex; let ⟨u, h3, h4⟩ := hb.ex; ⟨_, fun i => pe_dget (hu_of (hR i)) (h1 i) (h3 i) hs, simDGet h2 h4⟩
theorem qno : QP K X none pNo := ⟨_, fun _ => po_none, simNo⟩
theorem qpart (ha : QE K X a f) : QP K X (some a) (pSo f) := let ⟨_, h1, h2⟩ := ha.ex; ⟨_, fun i => po_some (h1 i), simSo h2⟩
theorem qsl {lo hi : Option Expr} {fl fh : T3O} (ha : QE K X a f) (hl : QP K X lo fl) (hh : QP K X hi fh) (hK : ∀ i, (X i).K = K := by exact fun _ => rfl) : QE K X (.Subscript a (.Slice lo hi none p2) pos) (eSl f fl fh) :=
  let ⟨t, h1, h2⟩ := ha.ex; let ⟨u, h3, h4⟩ := hl.ex; let ⟨w, h5, h6⟩ := hh.ex; ⟨tSl (r2Sl K) t u w, fun i => hK i ▸ pe_slice sl_P (h1 i) (h3 i) (h5 i), simSl h2 h4 h6⟩
variable {fa ga : T3A}
theorem qan : QA K X [] aNil := ⟨_, fun _ => pa_nil, simNil⟩
theorem qac (ha : QE K X e f) (hr : QA K X es fa) (hs : ∀ i, starEach (e :: es) (X i).env = (false, eval e (X i).env) :: starEach es (X i).env := by exact fun _ => rfl) : QA K X (e :: es) (aCons f fa) :=
  let ⟨_, h1, h2⟩ := ha.ex; let ⟨_, h3, h4⟩ := hr.ex; ⟨_, fun i => pa_cons (h1 i) (h3 i) (hs i), simCons h2 h4⟩
theorem qtup {x1 : Nat} (h : QA K X es fa) : QE K X (.Tuple es x1 pos) (eTup fa) := let ⟨_, h1, h2⟩ := h.ex; ⟨_, fun i => pe_tupF (h1 i), simTup h2⟩
theorem qlst (h : QA K X es fa) : QE K X (.List es pos) (eLst fa) := let ⟨_, h1, h2⟩ := h.ex; ⟨_, fun i => pe_lst (h1 i), simLst h2⟩
theorem olst (h : QA K X es fa) : QO K X (.List es pos) (oLst fa) := let ⟨_, h1, h2⟩ := h.ex; ⟨_, fun i => pe_lst (h1 i), simOLst h2⟩
theorem odicE : QO K X (.Dict [] [] pos) oDicE := ⟨_, fun _ => pe_dnewK, simODicE⟩
theorem orev {k : Nat} {p1 p3 : Pos} (h : QE K X e f) (hK : ∀ i, (X i).K = K := by exact fun _ => rfl) : QO K X (.Subscript e (.Slice none none (some (.UnaryOp .USub (.Constant (.int 1) k p1) p2)) p3) pos) (oRev f) :=
  let ⟨t, h1, h2⟩ := h.ex; ⟨tRevL K t, fun i => hK i ▸ pe_revL (h1 i), simORev h2⟩
theorem QO.sh {fo : T3O'} (h : QO K X e fo) : QE K X e (eShr fo) := let ⟨_, h1, h2⟩ := h.ex; ⟨_, h1, simShr h2⟩
/-- the pairs of a dict display -/
structure QD {ι : Type} (K : PySem.W.Frag) (X : ι → Cx) (pos : Pos) (ks : List (Option Expr)) (vs : List Expr) (ps : List (Str × T3E)) : Prop where
  ex : ∃ t, (∀ i, PPs (X i) pos ks vs t) ∧ SimP K t ps
theorem qdn : QD K X pos [] [] [] := ⟨_, fun _ => pps_nil, .nil⟩
theorem qdc {s : Str} {j : Nat} {v : Expr} {ks : List (Option Expr)} {vs : List Expr} {ps : List (Str × T3E)} (hv : QE K X v f) (hr : QD K X pos ks vs ps) : QD K X pos (some (.Constant (.str s) j p) :: ks) (v :: vs) ((s, f) :: ps) :=
  let ⟨_, h1, h2⟩ := hv.ex; let ⟨_, h3, h4⟩ := hr.ex; ⟨_, fun i => pps_cons pe_str (h1 i) (h3 i), .cons h2 h4⟩
theorem odisp {keys : List (Option Expr)} {values : List Expr} {ps : List (Str × T3E)} (h : QD K X pos keys values ps) (hall : keys.all (·.isSome) = true := by rfl) (hl : keys.length = values.length := by rfl) (h0 : keys ≠ [] := by exact fun z => by cases z)
    (h15 : keys.length ≤ 15 := by decide) : QO K X (.Dict keys values pos) (oDisp ps) := let ⟨_, h1, h2⟩ := h.ex; ⟨_, fun i => pe_disp (h1 i) hall hl h0 h15, simODisp h2⟩

/-! ### calls of built-ins -/
theorem qcb {id : String} {r : List V → Hp → VK → Prop} {r3 : List Rs → En → (Rs → En → Prop) → Prop} (hc : ∀ i, CallR (X i) (.builtin id) r) (hs : SimCR K r r3) (hm : ∀ i, (X i).mg x = none) (hv : bootBuiltins x = some (.builtin id)) (ha : QA K X (e :: es) fa)
    (hg : ∀ i, Gl (X i) x := by exact fun _ => rfl) (hn : x ≠ "__name__" := by decide) (hdb : (x == ("__debug__" : Str)) = false := by decide)
    (hst : ∀ i, starEach (e :: es) (X i).env = (false, eval e (X i).env) :: starEach es (X i).env := by exact fun _ => rfl) (hpl : ∀ i, (backTo pos (starEach es (X i).env)).any (·.1) = false := by exact fun _ => rfl) : QE K X (.Call (.Name x p) (e :: es) [] pos) (eCB r3 fa) :=
  let ⟨_, h1, h2⟩ := ha.ex; ⟨_, fun i => pe_callB (hc i) (hg i) (hm i) hv (h1 i) hn hdb (hst i) (hpl i), simCB hs h2⟩
theorem qct {T : String} {r : List V → Hp → VK → Prop} {r3 : List Rs → En → (Rs → En → Prop) → Prop} (hc : ∀ i, CallR (X i) (.type T) r) (hs : SimCR K r r3) (hm : ∀ i, (X i).mg x = none) (hv : bootBuiltins x = some (.type T)) (ha : QA K X (e :: es) fa)
    (hg : ∀ i, Gl (X i) x := by exact fun _ => rfl) (hn : x ≠ "__name__" := by decide) (hdb : (x == ("__debug__" : Str)) = false := by decide)
    (hst : ∀ i, starEach (e :: es) (X i).env = (false, eval e (X i).env) :: starEach es (X i).env := by exact fun _ => rfl) (hpl : ∀ i, (backTo pos (starEach es (X i).env)).any (·.1) = false := by exact fun _ => rfl) : QE K X (.Call (.Name x p) (e :: es) [] pos) (eCB r3 fa) :=
  let ⟨_, h1, h2⟩ := ha.ex; ⟨_, fun i => pe_callTy (hc i) (hg i) (hm i) hv (h1 i) hn hdb (hst i) (hpl i), simCB hs h2⟩
theorem qlen (hm : ∀ i, (X i).mg "len" = none) (ha : QA K X [e] fa) (hg : ∀ i, Gl (X i) "len" := by exact fun _ => rfl) (hK : ∀ i, (X i).K = K := by exact fun _ => rfl)
    (hst : ∀ i, starEach [e] (X i).env = (false, eval e (X i).env) :: starEach [] (X i).env := by exact fun _ => rfl) (hpl : ∀ i, (backTo pos (starEach [] (X i).env)).any (·.1) = false := by exact fun _ => rfl) : QE K X (.Call (.Name "len" p) [e] [] pos) (eCB cLen fa) := qcb (fun i => hK i ▸ call_len) simLen hm boot_len ha hg (by decide) (by decide) hst hpl
theorem qabs (hm : ∀ i, (X i).mg "abs" = none) (ha : QA K X [e] fa) (hg : ∀ i, Gl (X i) "abs" := by exact fun _ => rfl)
    (hst : ∀ i, starEach [e] (X i).env = (false, eval e (X i).env) :: starEach [] (X i).env := by exact fun _ => rfl) (hpl : ∀ i, (backTo pos (starEach [] (X i).env)).any (·.1) = false := by exact fun _ => rfl) : QE K X (.Call (.Name "abs" p) [e] [] pos) (eCB cAbs fa) := qcb (fun i => call_abs) simAbs hm PyProof.Rows.boot_abs ha hg (by decide) (by decide) hst hpl
theorem qint1 (hm : ∀ i, (X i).mg "int" = none) (ha : QA K X [e] fa) (hg : ∀ i, Gl (X i) "int" := by exact fun _ => rfl)
    (hst : ∀ i, starEach [e] (X i).env = (false, eval e (X i).env) :: starEach [] (X i).env := by exact fun _ => rfl) (hpl : ∀ i, (backTo pos (starEach [] (X i).env)).any (·.1) = false := by exact fun _ => rfl) : QE K X (.Call (.Name "int" p) [e] [] pos) (eCB cInt fa) := qct (fun i => call_int1) simInt hm PyProof.Rows.boot_int ha hg (by decide) (by decide) hst hpl
theorem qtupC (hm : ∀ i, (X i).mg "tuple" = none) (ha : QA K X [e] fa) (hg : ∀ i, Gl (X i) "tuple" := by exact fun _ => rfl) (hK : ∀ i, (X i).K = K := by exact fun _ => rfl)
    (hst : ∀ i, starEach [e] (X i).env = (false, eval e (X i).env) :: starEach [] (X i).env := by exact fun _ => rfl) (hpl : ∀ i, (backTo pos (starEach [] (X i).env)).any (·.1) = false := by exact fun _ => rfl) : QE K X (.Call (.Name "tuple" p) [e] [] pos) (eCB cTuple fa) := qct (fun i => hK i ▸ call_tupleF) simTuple hm PyProof.Rows.boot_tuple ha hg (by decide) (by decide) hst hpl
theorem olistC (hm : ∀ i, (X i).mg "list" = none) (ha : QA K X [e] fa) (hg : ∀ i, Gl (X i) "list" := by exact fun _ => rfl) (hK : ∀ i, (X i).K = K := by exact fun _ => rfl)
    (hst : ∀ i, starEach [e] (X i).env = (false, eval e (X i).env) :: starEach [] (X i).env := by exact fun _ => rfl) (hpl : ∀ i, (backTo pos (starEach [] (X i).env)).any (·.1) = false := by exact fun _ => rfl) : QO K X (.Call (.Name "list" p) [e] [] pos) (oListC fa) :=
  let ⟨u, h1, h2⟩ := ha.ex; ⟨tCB (fun xs H Q => ∃ p ys, xs = [.ref p] ∧ (SqL K H p ys ∨ SqT K H p ys) ∧ ∀ l, H l = none → Q (.ref l) (upd H l (.lst ys))) u, fun i => pe_callTy (hK i ▸ call_list_of) (hg i) (hm i) PyProof.Rows.boot_list (h1 i) (by decide) (by decide) (hst i) (hpl i), simOListC h2⟩
theorem qall (hc : ∀ i, (X i).calm = true) (hm : ∀ i, (X i).mg "all" = none) (ha : QA K X [e] fa) (hg : ∀ i, Gl (X i) "all" := by exact fun _ => rfl) (hK : ∀ i, (X i).K = K := by exact fun _ => rfl)
    (hst : ∀ i, starEach [e] (X i).env = (false, eval e (X i).env) :: starEach [] (X i).env := by exact fun _ => rfl) (hpl : ∀ i, (backTo pos (starEach [] (X i).env)).any (·.1) = false := by exact fun _ => rfl) : QE K X (.Call (.Name "all" p) [e] [] pos) (eCB cAll fa) := qcb (fun i => hK i ▸ cr_all (hc i)) simAll hm PyProof.Rows.boot_all ha hg (by decide) (by decide) hst hpl
theorem qisi (hm : ∀ i, (X i).mg "isinstance" = none) (ha : QA K X [a, b] fa) (hg : ∀ i, Gl (X i) "isinstance" := by exact fun _ => rfl) (hK : ∀ i, (X i).K = K := by exact fun _ => rfl)
    (hst : ∀ i, starEach [a, b] (X i).env = (false, eval a (X i).env) :: starEach [b] (X i).env := by exact fun _ => rfl) (hpl : ∀ i, (backTo pos (starEach [b] (X i).env)).any (·.1) = false := by exact fun _ => rfl) : QE K X (.Call (.Name "isinstance" p) [a, b] [] pos) (eCB cIsi fa) := qcb (fun i => hK i ▸ call_isi) simIsi hm PyProof.Rows.boot_isinstance ha hg (by decide) (by decide) hst hpl

/-! ### methods of built-ins -/
theorem qbm {T id : String} {name : Str} {r : V → List V → Hp → VK → Prop} {m3 : M3} (pa : PlainAttrs T) (slot : Slot T name id) (hty : typeOf (.builtin id) = pure (.type "method_descriptor")) (hm : ∀ i, MtR (X i) id r) (hs : SimM K r m3) (ho : QE K X a f) (ha : QA K X (e :: es) fa)
    (hK : ∀ i, (X i).K = K := by exact fun _ => rfl)
    (hbase : ∀ i, attributeBase a name (X i).env (eval a (X i).env) = eval a (X i).env := by exact fun _ => rfl)
    (hfew : ∀ i, ((backTo cpos (starEach (e :: es) (X i).env)).all (fun x => !x.1) && (backToKw cpos (keywordEach [] (X i).env)).all (fun x => x.1.isSome)
      && decide ((e :: es).length + ([] : List Keyword).length + (if ([] : List Keyword).isEmpty then 0 else 1) < 30)) = true := by exact fun _ => rfl)
    (hline : (apos.endLine == cpos.line) = true := by rfl) (hst : ∀ i, starEach (e :: es) (X i).env = (false, eval e (X i).env) :: starEach es (X i).env := by exact fun _ => rfl) (hpl : ∀ i, (backTo cpos (starEach es (X i).env)).any (·.1) = false := by exact fun _ => rfl) :
    QE K X (.Call (.Attribute a name apos) (e :: es) [] cpos) (eBM T m3 f fa) :=
  let ⟨t, h1, h2⟩ := ho.ex; let ⟨u, h3, h4⟩ := ha.ex; ⟨tBM K T r t u, fun i => hK i ▸ pe_bm pa slot hty (hm i) (h1 i) (h3 i) (hbase i) (hfew i) hline (hst i) (hpl i), simBM hs h2 h4⟩
theorem qbm0 {T id : String} {name : Str} {r : V → List V → Hp → VK → Prop} {m3 : M3} (pa : PlainAttrs T) (slot : Slot T name id) (hty : typeOf (.builtin id) = pure (.type "method_descriptor")) (hm : ∀ i, MtR (X i) id r) (hs : SimM K r m3) (ho : QE K X a f)
    (hK : ∀ i, (X i).K = K := by exact fun _ => rfl) (hbase : ∀ i, attributeBase a name (X i).env (eval a (X i).env) = eval a (X i).env := by exact fun _ => rfl) (hline : (apos.endLine == cpos.line) = true := by rfl) :
    QE K X (.Call (.Attribute a name apos) [] [] cpos) (eBM0 T m3 f) :=
  let ⟨t, h1, h2⟩ := ho.ex; ⟨tBM0 K T r t, fun i => hK i ▸ pe_bm0 pa slot hty (hm i) (h1 i) (hbase i) hline, simBM0 hs h2⟩
theorem qtidx {k : Nat} (hR : ∀ i, Room k (X i).A) (ho : QE K X a f) (ha : QA K X [e] fa) (hK : ∀ i, (X i).K = K := by exact fun _ => rfl)
    (hbase : ∀ i, attributeBase a "index" (X i).env (eval a (X i).env) = eval a (X i).env := by exact fun _ => rfl)
    (hfew : ∀ i, ((backTo cpos (starEach [e] (X i).env)).all (fun x => !x.1) && (backToKw cpos (keywordEach [] (X i).env)).all (fun x => x.1.isSome)
      && decide (([e] : List Expr).length + ([] : List Keyword).length + (if ([] : List Keyword).isEmpty then 0 else 1) < 30)) = true := by exact fun _ => rfl)
    (hline : (apos.endLine == cpos.line) = true := by rfl) (hst : ∀ i, starEach [e] (X i).env = (false, eval e (X i).env) :: starEach [] (X i).env := by exact fun _ => rfl) (hpl : ∀ i, (backTo cpos (starEach [] (X i).env)).any (·.1) = false := by exact fun _ => rfl) :
    QE K X (.Call (.Attribute a "index" apos) [e] [] cpos) (eTIdx f fa) :=
  let ⟨t, h1, h2⟩ := ho.ex; let ⟨u, h3, h4⟩ := ha.ex; ⟨tMG (tyTup K) (rIndexT K) t u, fun i => hK i ▸ pe_mG ty_tup PySem.F.plainAttrs_tuple PySem.F.slot_tuple_index PySem.F.type_tuple_index (mt_indexT (hu65 (hR i))) (h1 i) (h3 i) (hbase i) (hfew i) hline (hst i) (hpl i), simTIdx h2 h4⟩

/-! ### own defs, classes -/
structure C3 (P : Program) (w : World) (K : PySem.W.Frag) (mg : Str → Option Value) (base : Heap) (k : Nat) (x : Str) (ms : List Md) (sp : S3) : Prop where
  ex : ∃ (f : Addr) (fd : FuncData) (ps : List Str), FnOk P w K mg base CX0 k f fd ps (Lift K ms sp) ∧ mg x = some (.ref f) ∧ PySem.W.keepIn K (.ref f) = true ∧ Binds K fd ps []
structure Me3 (P : Program) (w : World) (K : PySem.W.Frag) (mg : Str → Option Value) (base : Heap) (k : Nat) (C : Addr) (m : Str) (ms : List Md) (sp : S3) : Prop where
  ex : ∃ (f : Addr) (fd : FuncData) (ps : List Str), Cls K C ∧ Meth K C m f ∧ FnOk P w K mg base CX0 k f fd ps (Lift K ms sp) ∧ Binds K fd ps []
structure Mk3 (P : Program) (w : World) (K : PySem.W.Frag) (mg : Str → Option Value) (base : Heap) (k : Nat) (x : Str) (C : Addr) (ms : List Md) (sp : S3) : Prop where
  ex : ∃ (f : Addr) (fd : FuncData) (ps : List Str), Mk K C f ∧ FnOk P w K mg base CX0 k f fd ps (Lift K (.par :: ms) sp) ∧ mg x = some (.ref C) ∧ Binds K fd ps []
structure Pr3 (P : Program) (w : World) (K : PySem.W.Frag) (mg : Str → Option Value) (base : Heap) (k : Nat) (C : Addr) (f : Str) (md : Md) (sp : S3) : Prop where
  ex : ∃ (p g : Addr) (fd : FuncData) (ps : List Str), Cls K C ∧ PropOf K C f p g ∧ FnOk P w K mg base CX0 k g fd ps (Lift K [md] sp) ∧ Binds K fd ps []
structure Op3 (P : Program) (w : World) (K : PySem.W.Frag) (mg : Str → Option Value) (base : Heap) (k : Nat) (C : Addr) (op : CmpOp) (ms : List Md) (sp : S3) : Prop where
  ex : ∃ (g : Addr) (fd : FuncData) (ps : List Str), PySem.W.findIn K (.ref C) (cmpInfo op).2.1 = some (some (.ref g)) ∧ PySem.W.isFn K (.ref g) = true ∧ FnOk P w K mg base CX0 k g fd ps (Lift K ms sp) ∧ Binds K fd ps []
variable {ms : List Md} {sp : S3} {k j : Nat} {C : Addr} {m : Str}
theorem qcall (cf : ∀ i, C3 (X i).prog (X i).w K (X i).mg (X i).base k x ms sp) (hR : ∀ i, Room j (X i).A) (hk : k ≤ j) (ha : QA K X (e :: es) fa) (hK : ∀ i, (X i).K = K := by exact fun _ => rfl) (hg : ∀ i, Gl (X i) x := by exact fun _ => rfl) (hdb : (x == ("__debug__" : Str)) = false := by decide)
    (he : ∀ i, starEach (e :: es) (X i).env = (false, eval e (X i).env) :: starEach es (X i).env := by exact fun _ => rfl) (hpl : ∀ i, (backTo pos (starEach es (X i).env)).any (·.1) = false := by exact fun _ => rfl) (np : noPab ms = true := by rfl) :
    QE K X (.Call (.Name x p) (e :: es) [] pos) (eCall ms sp fa) :=
  let ⟨u, h1, h2⟩ := ha.ex
  ⟨tCall (Lift K ms sp) [] E0 u, fun i => by
    obtain ⟨f, fd, ps, F, hm, kp, b⟩ := (cf i).ex
    have e := hK i
    subst e
    exact pe_call F ((hR i).mono hk) (hg i) hm kp b .nil pass0 (h1 i) hdb (he i) (hpl i), simCall np h2⟩
theorem ocall (cf : ∀ i, C3 (X i).prog (X i).w K (X i).mg (X i).base k x ms sp) (hR : ∀ i, Room j (X i).A) (hk : k ≤ j) (ha : QA K X (e :: es) fa) (hK : ∀ i, (X i).K = K := by exact fun _ => rfl) (hg : ∀ i, Gl (X i) x := by exact fun _ => rfl) (hdb : (x == ("__debug__" : Str)) = false := by decide)
    (he : ∀ i, starEach (e :: es) (X i).env = (false, eval e (X i).env) :: starEach es (X i).env := by exact fun _ => rfl) (hpl : ∀ i, (backTo pos (starEach es (X i).env)).any (·.1) = false := by exact fun _ => rfl) (np : noPab ms = true := by rfl) :
    QO K X (.Call (.Name x p) (e :: es) [] pos) (oCall ms sp fa) :=
  let ⟨u, h1, h2⟩ := ha.ex
  ⟨tCall (Lift K ms sp) [] E0 u, fun i => by
    obtain ⟨f, fd, ps, F, hm, kp, b⟩ := (cf i).ex
    have e := hK i
    subst e
    exact pe_call F ((hR i).mono hk) (hg i) hm kp b .nil pass0 (h1 i) hdb (he i) (hpl i), simOCall np h2⟩
theorem omake (cf : ∀ i, Mk3 (X i).prog (X i).w K (X i).mg (X i).base k x C ms sp) (hR : ∀ i, Room j (X i).A) (hk : k + 1 ≤ j) (ha : QA K X (e :: es) fa) (hK : ∀ i, (X i).K = K := by exact fun _ => rfl) (hg : ∀ i, Gl (X i) x := by exact fun _ => rfl) (hdb : (x == ("__debug__" : Str)) = false := by decide)
    (he : ∀ i, starEach (e :: es) (X i).env = (false, eval e (X i).env) :: starEach es (X i).env := by exact fun _ => rfl) (hpl : ∀ i, (backTo pos (starEach es (X i).env)).any (·.1) = false := by exact fun _ => rfl) (np : noPab ms = true := by rfl) :
    QO K X (.Call (.Name x p) (e :: es) [] pos) (oMake C ms sp fa) :=
  let ⟨u, h1, h2⟩ := ha.ex
  ⟨tMake C (Lift K (.par :: ms) sp) [] E0 u, fun i => by
    obtain ⟨f, fd, ps, M, F, hm, b⟩ := (cf i).ex
    have e := hK i
    subst e
    exact pe_make M F ((hR i).mono hk) (hg i) hm b .nil pass0 (h1 i) hdb (he i) (hpl i), simOMake np h2⟩
theorem qmeth {pl : ι → Sem Bool} (cf : ∀ i, Me3 (X i).prog (X i).w K (X i).mg (X i).base k C m ms sp) (hR : ∀ i, Room j (X i).A) (hk : k ≤ j) (ho : QE K X a f) (ha : QA K X (e :: es) fa) (hK : ∀ i, (X i).K = K := by exact fun _ => rfl)
    (hst : ∀ i, starEach (e :: es) (X i).env = (false, eval e (X i).env) :: starEach es (X i).env := by exact fun _ => rfl) (hpl : ∀ i, (backTo pos (starEach es (X i).env)).any (·.1) = false := by exact fun _ => rfl)
    (ht : ∀ i, eval (.Call (.Attribute a m apos) (e :: es) [] pos) (X i).env = (do
      let ov ← eval a (X i).env
      standAt apos.atName
      let (f, first) ← holding [ov] (getMethod ov m (pl i))
      callWith pos f first (backTo pos (starEach (e :: es) (X i).env)) (backToKw pos (keywordEach [] (X i).env))) := by exact fun _ => rfl) (np : noPab ms = true := by rfl) :
    QE K X (.Call (.Attribute a m apos) (e :: es) [] pos) (eMeth C m ms sp f fa) :=
  let ⟨t, h1, h2⟩ := ho.ex; let ⟨u, h3, h4⟩ := ha.ex
  ⟨tMeth C m (Lift K ms sp) [] E0 t u, fun i => by
    obtain ⟨g, fd, ps, c, me, F, b⟩ := (cf i).ex
    have e := hK i
    subst e
    exact pe_meth (h1 i) c me F ((hR i).mono hk) b .nil pass0 (h3 i) (hst i) (hpl i) (ht i), simMeth np h2 h4⟩
theorem qprop {md : Md} (cf : ∀ i, Pr3 (X i).prog (X i).w K (X i).mg (X i).base k C m md sp) (hR : ∀ i, Room j (X i).A) (hk : k + 1 ≤ j) (ho : QE K X a f) (hK : ∀ i, (X i).K = K := by exact fun _ => rfl) (hb : ∀ i, attributeBase a m (X i).env (eval a (X i).env) = eval a (X i).env := by exact fun _ => rfl) (np : noPab [md] = true := by rfl) :
    QE K X (.Attribute a m pos) (eProp C md sp f) :=
  let ⟨t, h1, h2⟩ := ho.ex
  ⟨tProp C (Lift K [md] sp) [] E0 t, fun i => by
    obtain ⟨p, g, fd, ps, c, hp, F, b⟩ := (cf i).ex
    have e := hK i
    subst e
    exact pe_prop (h1 i) c hp F ((hR i).mono hk) b .nil pass0 (hb i), simProp np h2⟩
theorem cOwn {op : CmpOp} (cf : ∀ i, Op3 (X i).prog (X i).w K (X i).mg (X i).base k C op ms sp) (hR : ∀ i, Room j (X i).A) (hk : k ≤ j) (hop : ∀ a b, compareOp op a b = richCompare op a b := by exact fun _ _ => rfl) (hK : ∀ i, (X i).K = K := by exact fun _ => rfl) (np : noPab ms = true := by rfl) : QC K X op (oOwn C ms sp) :=
  ⟨rOwnI K C (Lift K ms sp), fun i => by
    obtain ⟨g, fd, ps, hs, hf, F, b⟩ := (cf i).ex
    have e := hK i
    subst e
    exact op_ownI hop hs hf F b ((hR i).mono hk), simOwn np⟩
theorem qfld (hc : Cls K C) (hn : NoAttr K C m) (ho : QE K X a f) (hK : ∀ i, (X i).K = K := by exact fun _ => rfl) (hb : ∀ i, attributeBase a m (X i).env (eval a (X i).env) = eval a (X i).env := by exact fun _ => rfl) : QE K X (.Attribute a m pos) (eFld C m f) :=
  let ⟨t, h1, h2⟩ := ho.ex; ⟨tFld K t m, fun i => hK i ▸ pe_fld (h1 i) (hb i), simFld hc hn h2⟩
theorem qisC (ci : C8.InsC K C) (hm : ∀ i, (X i).mg "isinstance" = none) (ha : QA K X [a, b] fa) (hg : ∀ i, Gl (X i) "isinstance" := by exact fun _ => rfl) (hK : ∀ i, (X i).K = K := by exact fun _ => rfl)
    (hst : ∀ i, starEach [a, b] (X i).env = (false, eval a (X i).env) :: starEach [b] (X i).env := by exact fun _ => rfl) (hpl : ∀ i, (backTo pos (starEach [b] (X i).env)).any (·.1) = false := by exact fun _ => rfl) : QE K X (.Call (.Name "isinstance" p) [a, b] [] pos) (eCB (cIsC C) fa) :=
  qcb (fun i => C8.call_isC (hK i ▸ ci)) simIsC hm PyProof.Rows.boot_isinstance ha hg (by decide) (by decide) hst hpl
end
end L3

set_option Elab.async false
set_option linter.all false
set_option maxRecDepth 100000
namespace L3
open PySem PySem.Spec L2
open PyProof.Rows (b2i envOfC)
section
variable {ι : Type} {X : ι → Cx} {K : PySem.W.Frag} {pos p p2 pos' apos cpos spos : Pos} {e a b c d' tg iter o value : Expr} {es rest ifs : List Expr} {f g h fv fo : T3E} {x y : Str} {st : Stmt} {sts body els : List Stmt} {fs gs : T3S} {ft : T3T} {fa : T3A}

/-! ### statements -/
theorem bn : QB K X [] sNext := ⟨_, fun _ => pss_nil, simNext⟩
theorem bc (h1 : QS K X st fs) (h2 : QB K X sts gs) : QB K X (st :: sts) (sSeq fs gs) := let ⟨_, a1, a2⟩ := h1.ex; let ⟨_, b1, b2⟩ := h2.ex; ⟨_, fun i => pss_cons (a1 i) (b1 i), simSeq a2 b2⟩
theorem b1 (h1 : QS K X st fs) : QB K X [st] fs := let ⟨_, a1, a2⟩ := h1.ex; ⟨_, fun i => pss_one (a1 i), a2⟩
theorem bnever : QB K X sts sNever := ⟨_, fun _ => pss_never, simNever⟩
theorem snever : QS K X st sNever := ⟨_, fun _ => ps_never, simNever⟩
theorem spass : QS K X (.Pass pos) sNext := ⟨_, fun _ => ps_pass, simNext⟩
theorem sbreak : QS K X (.Break pos) sBreak := ⟨_, fun _ => ps_break, simBreak⟩
theorem scont : QS K X (.Continue pos) sCont := ⟨_, fun _ => ps_continue, simCont⟩
theorem sexpr (he : QE K X e f) (hs : ∀ i, swapsWith e none pos.line (X i).env = pure false := by exact fun _ => rfl) : QS K X (.Expr e pos) (sDrop f) := let ⟨_, a1, a2⟩ := he.ex; ⟨_, fun i => ps_expr (a1 i) (hs i), simDrop a2⟩
theorem sret (he : QE K X e f) : QS K X (.Return (some e) pos) (sRet f) := let ⟨_, a1, a2⟩ := he.ex; ⟨_, fun i => ps_ret (a1 i), simRet a2⟩
theorem sretO {f : T3O'} (he : QO K X e f) : QS K X (.Return (some e) pos) (sRetO f) := let ⟨_, a1, a2⟩ := he.ex; ⟨_, fun i => ps_ret (a1 i), simRetO a2⟩
theorem sretN : QS K X (.Return none pos) sRetN := ⟨_, fun _ => ps_retN, simRetN⟩
theorem sif (hc : QT K X c ft) (ha : QB K X body fs) (hb : QB K X els gs) : QS K X (.If c body els pos) (sIf ft fs gs) := let ⟨_, a1, a2⟩ := hc.ex; let ⟨_, b1, b2⟩ := ha.ex; let ⟨_, c1, c2⟩ := hb.ex; ⟨_, fun i => ps_if (a1 i) (b1 i) (c1 i), simIfS a2 b2 c2⟩
/-! ### targets -/
theorem gn (n : Nat) (hN : ∀ i, (X i).N[n]? = some x := by exact fun _ => rfl) (hnd : ∀ i, (X i).N.Nodup := by exact fun _ => by decide) (hx : ∀ i, Loc (X i).env.scope x := by first | exact fun _ => Or.inl rfl | exact fun _ => Or.inr rfl)
    (hf : ∀ i, (X i).fn x = true ∨ (X i).env.scope.names.lookup x = some .local := by first | exact fun _ => Or.inl rfl | exact fun _ => Or.inr rfl) : QG K X false (.Name x pos) (gN n) [n] := ⟨_, fun i => pg_name (hnd i) (hN i) (hx i) (hf i), simGN n⟩
theorem gsn : QGs K X 0 [] (fun xs ρ Q => xs = [] ∧ Q ρ) [] := ⟨_, fun _ => pgs_nil, simGNil⟩
theorem gsc {g1 : T3G} {gr : List D → En → (En → Prop) → Prop} {is js : List Nat} {n : Nat} (h1 : QG K X false e g1 is) (h2 : QGs K X n es gr js) (hs : ∀ i, (assignEach (e :: es) (X i).env).map (·.2) = assign e (X i).env :: (assignEach es (X i).env).map (·.2) := by exact fun _ => rfl) :
    QGs K X (n + 1) (e :: es) (fun xs ρ Q => match xs with | x :: r => g1 x ρ fun ρ1 => gr r ρ1 Q | [] => False) (is ++ js) := let ⟨_, a1, a2⟩ := h1.ex; let ⟨_, b1, b2⟩ := h2.ex; ⟨_, fun i => pgs_cons (a1 i) (b1 i) (hs i), simGCons a2 b2⟩
theorem gtup {wk : Bool} {kk n : Nat} {gr : List D → En → (En → Prop) → Prop} {is : List Nat} (h : QGs K X n es gr is) (hc : ∀ i, (X i).calm = true := by exact fun _ => rfl) (hK : ∀ i, (X i).K = K := by exact fun _ => rfl)
    (hn : ∀ i, (assignEach es (X i).env).length = n := by exact fun _ => rfl) (hst : ∀ i, (assignEach es (X i).env).findIdx? (·.1) = none := by exact fun _ => rfl) : QG K X wk (.Tuple es kk pos) (gT n gr) is :=
  let ⟨t, a1, a2⟩ := h.ex; ⟨gTup K n t, fun i => hK i ▸ pg_tup (hc i) (a1 i) (hn i) (hst i), simGT a2⟩
/-! ### assignments -/
theorem sset (n : Nat) (he : QE K X e f) (hN : ∀ i, (X i).N[n]? = some x := by exact fun _ => rfl) (hnd : ∀ i, (X i).N.Nodup := by exact fun _ => by decide) (hx : ∀ i, Loc (X i).env.scope x := by first | exact fun _ => Or.inl rfl | exact fun _ => Or.inr rfl)
    (hs : ∀ i, swapsWith e (some (.Name x pos')) pos.line (X i).env = pure false := by exact fun _ => rfl) (hf : ∀ i, (X i).fn x = true ∨ (X i).env.scope.names.lookup x = some .local := by first | exact fun _ => Or.inl rfl | exact fun _ => Or.inr rfl) :
    QS K X (.Assign [.Name x pos'] e pos) (sAsg f (gN n)) := let ⟨_, a1, a2⟩ := he.ex; ⟨_, fun i => ps_set (hnd i) (hN i) (hx i) (a1 i) (hs i) (hf i), simAsg a2 (simGN n)⟩
theorem ssetO (n : Nat) {f : T3O'} (he : QO K X e f) (hN : ∀ i, (X i).N[n]? = some x := by exact fun _ => rfl) (hnd : ∀ i, (X i).N.Nodup := by exact fun _ => by decide) (hx : ∀ i, Loc (X i).env.scope x := by first | exact fun _ => Or.inl rfl | exact fun _ => Or.inr rfl)
    (hs : ∀ i, swapsWith e (some (.Name x pos')) pos.line (X i).env = pure false := by exact fun _ => rfl) (hf : ∀ i, (X i).fn x = true ∨ (X i).env.scope.names.lookup x = some .local := by first | exact fun _ => Or.inl rfl | exact fun _ => Or.inr rfl) :
    QS K X (.Assign [.Name x pos'] e pos) (sAsgO f n) := let ⟨_, a1, a2⟩ := he.ex; ⟨_, fun i => ps_set (hnd i) (hN i) (hx i) (a1 i) (hs i) (hf i), simAsgO a2 n⟩
theorem sasg {g3 : T3G} {is : List Nat} (he : QE K X e f) (hg : QG K X false tg g3 is) (hs : ∀ i, swapsWithSole [tg] e pos.line (X i).env = pure false := by exact fun _ => rfl) (hw : ∀ i, swappedStores [tg] e (X i).env = pure none := by exact fun _ => rfl)
    (h1 : ∀ i, (assignEach [tg] (X i).env).map (·.2) = [assign tg (X i).env] := by exact fun _ => rfl) : QS K X (.Assign [tg] e pos) (sAsg f g3) := let ⟨_, a1, a2⟩ := he.ex; let ⟨_, b1, b2⟩ := hg.ex; ⟨_, fun i => ps_asg (a1 i) (b1 i) (hs i) (hw i) (h1 i), simAsg a2 b2⟩
/-- xs[i] = e -/
theorem sput {i' : Expr} (he : QE K X e f) (ho : QE K X o fo) (hi : QE K X i' h) (hs : ∀ i, swapsWithSole [.Subscript o i' p] e pos.line (X i).env = pure false := by exact fun _ => rfl) (hw : ∀ i, swappedStores [.Subscript o i' p] e (X i).env = pure none := by exact fun _ => rfl)
    (h1 : ∀ i, (assignEach [.Subscript o i' p] (X i).env).map (·.2) = [assign (.Subscript o i' p) (X i).env] := by exact fun _ => rfl)
    (hp : ∀ i v, assign (.Subscript o i' p) (X i).env v = (do
      let ov ← holding [v] (eval o (X i).env)
      let iv ← holding [v, ov] (eval i' (X i).env)
      standAt p
      holding [v, ov, iv] (setItem ov iv v)
      release [v, ov, iv] []) := by exact fun _ _ => rfl) : QS K X (.Assign [.Subscript o i' p] e pos) (sPut f fo h) :=
  let ⟨_, a1, a2⟩ := he.ex; let ⟨_, b1, b2⟩ := ho.ex; let ⟨_, c1, c2⟩ := hi.ex; ⟨_, fun i => ps_asg (a1 i) (pg_sub (b1 i) (c1 i) set_list (hp i)) (hs i) (hw i) (h1 i), simPut a2 b2 c2⟩
theorem sdput {k : Nat} {i' : Expr} (hR : ∀ i, Room k (X i).A) (he : QE K X e f) (ho : QE K X o fo) (hi : QE K X i' h) (hs : ∀ i, swapsWith e (some (.Subscript o i' pos')) pos.line (X i).env = pure false := by exact fun _ => rfl) : QS K X (.Assign [.Subscript o i' pos'] e pos) (sDPutD f fo h) :=
  let ⟨_, a1, a2⟩ := he.ex; let ⟨_, b1, b2⟩ := ho.ex; let ⟨_, c1, c2⟩ := hi.ex; ⟨_, fun i => ps_dput (hu_of (hR i)) (b1 i) (c1 i) (a1 i) (hs i), simDPut a2 b2 c2⟩
theorem sfld {C : Addr} {m : Str} (hc : Cls K C) (hn : NoAttr K C m) (ho : QE K X o fo) (hv : QE K X value fv) (hK : ∀ i, (X i).K = K := by exact fun _ => rfl) (hs : ∀ i, swapsWith value (some (.Attribute o m pos')) pos.line (X i).env = pure false := by exact fun _ => rfl) : QS K X (.Assign [.Attribute o m pos'] value pos) (sFldP C m fv fo) :=
  let ⟨t, a1, a2⟩ := ho.ex; let ⟨u, b1, b2⟩ := hv.ex; ⟨sFld K t u m, fun i => hK i ▸ ps_fld (a1 i) (b1 i) (hs i), simFldP hc hn b2 a2⟩
/-! ### walks -/
theorem iseq (he : QE K X e f) (hK : ∀ i, (X i).K = K := by exact fun _ => rfl) : QI K X false tg e (iS f) := let ⟨t, a1, a2⟩ := he.ex; ⟨iSeq K t, fun i => hK i ▸ pi_seq (a1 i), simIS a2⟩
theorem irng1 (hm : ∀ i, (X i).mg "range" = none) (ha : QA K X [a] fa) (hg : ∀ i, Gl (X i) "range" := by exact fun _ => rfl) (hs : ∀ i, starEach [a] (X i).env = [(false, eval a (X i).env)] := by exact fun _ => rfl) : QI K X false tg (.Call (.Name "range" p) [a] [] pos) (iR1 fa) :=
  let ⟨_, a1, a2⟩ := ha.ex; ⟨_, fun i => pi_range1 (hg i) (hm i) (a1 i) (hs i), simIR1 a2⟩
theorem irng2 (hm : ∀ i, (X i).mg "range" = none) (ha : QA K X [a, b] fa) (hg : ∀ i, Gl (X i) "range" := by exact fun _ => rfl) (hs : ∀ i, starEach [a, b] (X i).env = [(false, eval a (X i).env), (false, eval b (X i).env)] := by exact fun _ => rfl) (hs2 : ∀ i, starEach [b] (X i).env = [(false, eval b (X i).env)] := by exact fun _ => rfl) :
    QI K X false tg (.Call (.Name "range" p) [a, b] [] pos) (iR2 fa) := let ⟨_, a1, a2⟩ := ha.ex; ⟨_, fun i => pi_range2 (hg i) (hm i) (a1 i) (hs i) (hs2 i), simIR2 a2⟩
theorem irng3 (hm : ∀ i, (X i).mg "range" = none) (ha : QA K X [a, b, c] fa) (hg : ∀ i, Gl (X i) "range" := by exact fun _ => rfl) (hs : ∀ i, starEach [a, b, c] (X i).env = (false, eval a (X i).env) :: starEach [b, c] (X i).env := by exact fun _ => rfl) (hpl : ∀ i, (backTo pos (starEach [b, c] (X i).env)).any (·.1) = false := by exact fun _ => rfl) :
    QI K X false tg (.Call (.Name "range" p) [a, b, c] [] pos) (iRm fa) := let ⟨_, a1, a2⟩ := ha.ex; ⟨_, fun i => pi_range3 (hg i) (hm i) (a1 i) (hs i) (hpl i), simIRm a2⟩
theorem ienum {elts : List Expr} {kk : Nat} {tpos : Pos} (hm : ∀ i, (X i).mg "enumerate" = none) (ha : QA K X [e] fa) (hg : ∀ i, Gl (X i) "enumerate" := by exact fun _ => rfl) (hs : ∀ i, starEach [e] (X i).env = [(false, eval e (X i).env)] := by exact fun _ => rfl) (hK : ∀ i, (X i).K = K := by exact fun _ => rfl) :
    QI K X true (.Tuple elts kk tpos) (.Call (.Name "enumerate" p) [e] [] pos) (iEP fa) := let ⟨t, a1, a2⟩ := ha.ex; ⟨iEnumP K t, fun i => hK i ▸ pi_enumP (hg i) (hm i) (a1 i) (hs i), simIEP a2⟩
theorem sfor {wk : Bool} {w : T3I} {g3 : T3G} {ix : List Nat} (hi : QI K X wk tg iter w) (hg : QG K X wk tg g3 ix) (hb : QB K X body fs) (hp : ∀ i, PassesOwn (model (X i).prog (X i).w) (X i).A (X i).env (X i).xe := by exact fun _ => PassesOwn.never) (hc : ∀ i, (X i).calm = true := by exact fun _ => rfl)
    (hs : ∀ i x, foldedSetIterable iter (X i).env x = pure x := by exact fun _ _ => rfl) : QS K X (.For tg iter body [] pos) (sFor w g3 fs) :=
  let ⟨_, a1, a2⟩ := hi.ex; let ⟨_, b1, b2⟩ := hg.ex; let ⟨_, c1, c2⟩ := hb.ex; ⟨_, fun i => ps_for (hp i) (hc i) (a1 i) (b1 i) (c1 i) (hs i), simFor a2 b2 c2⟩
theorem swhile (hc : QT K X c ft) (hb : QB K X body fs) (hp : ∀ i, PassesOwn (model (X i).prog (X i).w) (X i).A (X i).env (X i).xe := by exact fun _ => PassesOwn.never) : QS K X (.While c body [] pos) (sWhile ft fs) :=
  let ⟨_, a1, a2⟩ := hc.ex; let ⟨_, b1, b2⟩ := hb.ex; ⟨_, fun i => ps_while (hp i) (a1 i) (b1 i), simWhile a2 b2⟩
/-! ### comprehensions -/
theorem tsn : QTs K X [] fYes := ⟨_, fun _ => pts_nil, fun F U ρ σ H Q3 Q2 e R q k => k true ρ H R (.refl R) q⟩
theorem ts1 (h : QT K X c ft) : QTs K X [c] ft := let ⟨_, a1, a2⟩ := h.ex; ⟨_, fun i => pts_one (a1 i), a2⟩
/-- the contexts of a comprehension's block -/
abbrev Blk (X : ι → Cx) (scope : Scope) : (ι × Shared × Hp × Addr × List (Str × Addr) × List Addr) → Cx := fun z => (X z.1).blk z.2.1 z.2.2.1 scope (compEnvC scope z.2.2.2.2.1 z.2.2.2.1 (X z.1).env) z.2.2.2.2.2
theorem olc {wk : Bool} {elt : Expr} {scope : Scope} {w : T3I} {g3 : T3G} {te : T3E} {ix : List Nat} (own : List (Str × Nat)) (hi : QI K X wk tg iter w) (hg : QG K (Blk X scope) wk tg g3 ix) (ht : QTs K (Blk X scope) ifs ft) (he : QE K (Blk X scope) elt te)
    (ok : ∀ i, BlkOk (X i).N (X i).env.scope scope own) (hc : ∀ i, (X i).calm = true := by exact fun _ => rfl) (hnd : ∀ i, (X i).N.Nodup := by exact fun _ => by decide)
    (hix : ix.all (fun i => (own.map (·.2)).contains i) = true := by rfl) (hs : ∀ i x, foldedSetIterable iter (X i).env x = pure x := by exact fun _ _ => rfl) :
    QO K X (.ListComp elt [⟨tg, iter, ifs, 0⟩] scope pos) (oLc w g3 ft te (own.map (·.2))) :=
  let ⟨_, a1, a2⟩ := hi.ex; let ⟨_, b1, b2⟩ := hg.ex; let ⟨_, c1, c2⟩ := ht.ex; let ⟨_, d1, d2⟩ := he.ex
  ⟨_, fun i => pe_lc (hc i) (hnd i) (a1 i) (ok i) (fun s H C cl fp => b1 (i, s, H, C, cl, fp)) (fun s H C cl fp => c1 (i, s, H, C, cl, fp)) (fun s H C cl fp => d1 (i, s, H, C, cl, fp)) (hs i), simLc a2 b2 c2 d2 hix⟩
/-- y = [..] -/
theorem slcG {wk : Bool} {elt : Expr} {scope : Scope} {py : Pos} {w : T3I} {g3 : T3G} {te : T3E} {ix : List Nat} (n : Nat) (own : List (Str × Nat)) (hi : QI K X wk tg iter w) (hg : QG K (Blk X scope) wk tg g3 ix) (ht : QTs K (Blk X scope) ifs ft) (he : QE K (Blk X scope) elt te)
    (ok : ∀ i, BlkOk (X i).N (X i).env.scope scope own) (hN : ∀ i, (X i).N[n]? = some y) (hyl : ∀ i, (X i).env.scope.names.lookup y = some .local)
    (hsw : ∀ i, swapsWith (.ListComp elt [⟨tg, iter, ifs, 0⟩] scope pos) (some (.Name y py)) spos.line (X i).env = pure true) (hc : ∀ i, (X i).calm = true) (hnd : ∀ i, (X i).N.Nodup)
    (hix : ix.all (fun i => (own.map (·.2)).contains i) = true) (hs : ∀ i x, foldedSetIterable iter (X i).env x = pure x) :
    ∃ t, (∀ i, PS (X i) (.Assign [.Name y py] (.ListComp elt [⟨tg, iter, ifs, 0⟩] scope pos) spos) (tAsg t (gName n))) ∧ SimEO K t (oLc w g3 ft te (own.map (·.2))) :=
  let ⟨_, a1, a2⟩ := hi.ex; let ⟨_, b1, b2⟩ := hg.ex; let ⟨_, c1, c2⟩ := ht.ex; let ⟨_, d1, d2⟩ := he.ex
  ⟨_, fun i => ps_setLc (hc i) (hnd i) (hN i) (hyl i) (hsw i) (a1 i) (ok i) (fun s H C cl fp => b1 (i, s, H, C, cl, fp)) (fun s H C cl fp => c1 (i, s, H, C, cl, fp)) (fun s H C cl fp => d1 (i, s, H, C, cl, fp)) (hs i), simLc a2 b2 c2 d2 hix⟩
theorem slcO {wk : Bool} {elt : Expr} {scope : Scope} {py : Pos} {w : T3I} {g3 : T3G} {te : T3E} {ix : List Nat} (n : Nat) (own : List (Str × Nat)) (hi : QI K X wk tg iter w) (hg : QG K (Blk X scope) wk tg g3 ix) (ht : QTs K (Blk X scope) ifs ft) (he : QE K (Blk X scope) elt te)
    (ok : ∀ i, BlkOk (X i).N (X i).env.scope scope own) (hsw : ∀ i, swapsWith (.ListComp elt [⟨tg, iter, ifs, 0⟩] scope pos) (some (.Name y py)) spos.line (X i).env = pure true) (hN : ∀ i, (X i).N[n]? = some y := by exact fun _ => rfl) (hyl : ∀ i, (X i).env.scope.names.lookup y = some .local := by exact fun _ => rfl)
    (hc : ∀ i, (X i).calm = true := by exact fun _ => rfl) (hnd : ∀ i, (X i).N.Nodup := by exact fun _ => by decide)
    (hix : ix.all (fun i => (own.map (·.2)).contains i) = true := by rfl) (hs : ∀ i x, foldedSetIterable iter (X i).env x = pure x := by exact fun _ _ => rfl) :
    QS K X (.Assign [.Name y py] (.ListComp elt [⟨tg, iter, ifs, 0⟩] scope pos) spos) (sAsgO (oLc w g3 ft te (own.map (·.2))) n) :=
  let ⟨_, h1, h2⟩ := slcG n own hi hg ht he ok hN hyl hsw hc hnd hix hs; ⟨_, h1, simAsgO h2 n⟩
theorem slc {wk : Bool} {elt : Expr} {scope : Scope} {py : Pos} {w : T3I} {g3 : T3G} {te : T3E} {ix : List Nat} (n : Nat) (own : List (Str × Nat)) (hi : QI K X wk tg iter w) (hg : QG K (Blk X scope) wk tg g3 ix) (ht : QTs K (Blk X scope) ifs ft) (he : QE K (Blk X scope) elt te)
    (ok : ∀ i, BlkOk (X i).N (X i).env.scope scope own) (hsw : ∀ i, swapsWith (.ListComp elt [⟨tg, iter, ifs, 0⟩] scope pos) (some (.Name y py)) spos.line (X i).env = pure true) (hN : ∀ i, (X i).N[n]? = some y := by exact fun _ => rfl) (hyl : ∀ i, (X i).env.scope.names.lookup y = some .local := by exact fun _ => rfl)
    (hc : ∀ i, (X i).calm = true := by exact fun _ => rfl) (hnd : ∀ i, (X i).N.Nodup := by exact fun _ => by decide)
    (hix : ix.all (fun i => (own.map (·.2)).contains i) = true := by rfl) (hs : ∀ i x, foldedSetIterable iter (X i).env x = pure x := by exact fun _ _ => rfl) :
    QS K X (.Assign [.Name y py] (.ListComp elt [⟨tg, iter, ifs, 0⟩] scope pos) spos) (sAsg (eShr (oLc w g3 ft te (own.map (·.2)))) (gN n)) :=
  let ⟨_, h1, h2⟩ := slcG n own hi hg ht he ok hN hyl hsw hc hnd hix hs; ⟨_, h1, simAsg (simShr h2) (simGN n)⟩
end

/-! ### defs -/
section
variable {P : Program} {w : World} {K : PySem.W.Frag} {mg : Str → Option Value} {base : Heap} {x qual : Str} {params : Arguments} {body : List Stmt} {scope : Scope} {f : Addr} {fd : FuncData} {N ps : List Str} {k n : Nat} {ms : List Md} {sp : S3} {t3 : T3S}
/-- the context of a def's body -/
abbrev CxD (P : Program) (w : World) (K : PySem.W.Frag) (mg : Str → Option Value) (base : Heap) (N : List Str) (qual : Str) (scope : Scope) (f : Addr) : (Value × Around × List Env × Shared × Hp × XK) → Cx :=
  fun z => (cxOf CX0 P w K mg base N qual scope f z.1 z.2.1 z.2.2.1 z.2.2.2.1 z.2.2.2.2.1 z.2.2.2.2.2).nox
/-- .. where there is room for k calls more -/
abbrev CxR (k : Nat) (P : Program) (w : World) (K : PySem.W.Frag) (mg : Str → Option Value) (base : Heap) (N : List Str) (qual : Str) (scope : Scope) (f : Addr) : {z : Value × Around × List Env × Shared × Hp × XK // Room k (z.2.1.deeper (envOfC qual scope z.2.2.2.1.heap.objs.size f z.1))} → Cx :=
  fun z => CxD P w K mg base N qual scope f z.1
theorem fn3 {dvs : List V} {kws : List (Str × V)} (F : FunD K x qual params body scope dvs kws f fd) (S : FnScope N ps scope) (hl : ps.length = ms.length) (hN : N.length = ms.length + n) (hw : QB K (CxR k P w K mg base N qual scope f) body t3)
    (hsp : ∀ ds QR QO, sp ds QR QO → ds.length = ms.length → t3 (endE ms ds QR QO) (startE n ms ds)) : FnOk P w K mg base CX0 (k + 1) f fd ps (Lift K ms sp) := by
  obtain ⟨t, h1, h2⟩ := hw.ex
  refine F.ok S (fun vs H Q E h => ?_) fun cdv A outer s H vs Q E hr h => ⟨t, PSs.nox (h1 ⟨(cdv, A, outer, s, H, E), hr⟩), body3 h2 hN hsp vs H Q E h⟩
  obtain ⟨U, ds, QR, QO, A, _⟩ := h
  rw [hl]; exact A.l1.symm
theorem c3 (F : FunD K x qual params body scope [] [] f fd) (hm : mg x = some (.ref f)) (hb : Binds K fd ps []) (S : FnScope N ps scope) (hl : ps.length = ms.length) (hN : N.length = ms.length + n) (hw : QB K (CxR k P w K mg base N qual scope f) body t3)
    (hsp : ∀ ds QR QO, sp ds QR QO → ds.length = ms.length → t3 (endE ms ds QR QO) (startE n ms ds)) : C3 P w K mg base (k + 1) x ms sp :=
  ⟨f, fd, ps, fn3 F S hl hN hw hsp, hm, F.kp, hb⟩
theorem C3.mono {j : Nat} (c : C3 P w K mg base j x ms sp) (h : j ≤ k) : C3 P w K mg base k x ms sp := let ⟨f, fd, ps, F, h1, h2, h3⟩ := c.ex; ⟨f, fd, ps, F.mono h, h1, h2, h3⟩
theorem C3.imp {sp' : S3} (c : C3 P w K mg base k x ms sp) (h : ∀ ds QR QO, sp' ds QR QO → sp ds QR QO) : C3 P w K mg base k x ms sp' :=
  let ⟨f, fd, ps, F, h1, h2, h3⟩ := c.ex
  ⟨f, fd, ps, F.imp fun vs H Q E ⟨U, ds, QR, QO, A, q, r⟩ => ⟨U, ds, QR, QO, A, h _ _ _ q, r⟩, h1, h2, h3⟩
end
end L3

set_option Elab.async false
set_option linter.all false
set_option maxRecDepth 100000
namespace L3
open PySem PySem.Spec L2
open PyProof.Rows (b2i envOfC)
section
variable {F : Fr} {U U2 : US} {ρ ρ' ρ2 : En} {σ σ2 : L2.St} {H H' H2 : Hp} {K : PySem.W.Frag}
/-! ### - e -/
def eNeg (f : T3E) : T3E := fun ρ Q => f ρ fun r ρ1 => wd r ρ1 fun d => match d with
  | .int i => Q (.val (.int (-i))) ρ1
  | _ => False
theorem simNeg {t : TE} {f : T3E} (h : SimE K t f) : SimE K (tUn (rU fun i => .int (-i)) t) (eNeg f) := by
  intro F U ρ σ H Q3 Q2 e R q k
  refine h F U ρ σ H _ _ e R q fun r v ρ1 H1 R1 s1 q1 h1 => ?_
  obtain ⟨d, ed, h1⟩ := wd_out h1
  cases d <;> first | exact h1.elim | skip
  exact ⟨_, q1.int R1 ed, k (.val _) _ ρ1 H1 R1 s1 rvI h1⟩
/-! ### d.get(k, x) -/
def eDG2 (fd fy fx : T3E) : T3E := fun ρ Q => fd ρ fun x ρ1 => wd x ρ1 fun dx => match dx with
  | .dic _ => fy ρ1 fun y ρ2 => fx ρ2 fun z ρ3 => match z with
    | .val dz => wdk x y ρ3 fun kvs k => Q (.val ((getD' kvs k).getD dz)) ρ3
    | _ => False
  | _ => False
theorem simDG2 {td ty tx : TE} {fd fy fx : T3E} (h : SimE K td fd) (hy : SimE K ty fy) (hx : SimE K tx fx) : SimE K (tDGet2 td ty tx) (eDG2 fd fy fx) := by
  intro F U ρ σ H Q3 Q2 e R q k
  refine h F U ρ σ H _ _ e R q fun x v ρ1 H1 R1 s1 q1 h1 => ?_
  obtain ⟨d, ed, h1⟩ := wd_out h1
  cases d <;> first | exact h1.elim | skip
  obtain ⟨a, vs, rfl, z1, z2⟩ := q1.dic R1 ed
  refine ⟨a, rfl, .inl ⟨vs, z1⟩, hy F U ρ1 σ H1 _ _ e R1 h1 fun y w ρ2 H2 R2 s2 q2 h2 => ?_⟩
  refine hx F U ρ2 σ H2 _ _ e R2 h2 fun z u ρ3 H3 R3 s3 q3 h3 => ?_
  cases z with
  | sl _ => exact h3.elim
  | bx _ _ _ => exact h3.elim
  | val dz =>
    have q1' : RV F U σ H3 x (.ref a) := (q1.pres (s2.pres R1)).pres (s3.pres R2)
    obtain ⟨a', kvs, ws, j, ea, y1, y2, rfl, h4⟩ := wdk_out R3 q1' (q2.pres (s3.pres R2)) h3
    cases ea
    refine ⟨valV ws j, .inl ⟨ws, j, y1, rfl, rfl⟩, ?_⟩
    rcases y2.get j with ⟨n, n'⟩ | ⟨d', v', n, ev, rv⟩
    · rw [n'] ; rw [n] at h4
      exact k (.val dz) u ρ3 H3 R3 ((s1.trans s2).trans s3) q3 h4
    · rw [ev]; rw [n] at h4
      exact k (.val d') v' ρ3 H3 R3 ((s1.trans s2).trans s3) rv h4
/-! ### a text, sign by sign -/
def signs (z : Str) : List D := z.cps.toList.map fun c => .str ⟨#[c]⟩
def iSt (f : T3E) : T3I := fun ρ Q => f ρ fun r ρ1 => wd r ρ1 fun d => match d with
  | .str z => Q ⟨signs z, .val .non⟩ ρ1
  | _ => False
theorem simISt {t : TE} {f : T3E} (h : SimE K t f) : SimI K false (iStr t) (iSt f) := by
  intro F U ρ σ H Q3 R2 e R q k
  refine h F U ρ σ H _ _ e R q fun r v ρ1 H1 R1 s1 q1 h1 => ?_
  obtain ⟨d, ed, h1⟩ := wd_out h1
  cases d <;> first | exact h1.elim | skip
  rename_i z
  refine ⟨z, q1.str R1 ed, k _ ⟨signs z, .val .non⟩ ρ1 H1 R1 s1 ?_ h1⟩
  intro F2 U2 ρ2 σ2 H2 eK R2' p kp i
  refine ⟨fun d hd => ?_, fun hi => by
    have hi : z.cps.size ≤ i := by simpa [signs] using hi
    exact hi⟩
  unfold signs at hd
  rw [List.getElem?_map] at hd
  obtain ⟨c, hc, rfl⟩ := Option.map_eq_some_iff.mp hd
  have hc2 : z.cps[i]? = some c := by simpa using hc
  refine ⟨(Array.getElem?_eq_some_iff.mp hc2).1, fun x H3 hy => ?_⟩
  obtain ⟨rfl, c', hc', rfl⟩ := hy
  rw [hc2] at hc'; cases hc'
  exact ⟨fun _ _ h => h, .inl rp_str⟩
/-! ### a written dict with text keys -/
structure KD3 (K : PySem.W.Frag) (w : World) (d : Addr) (tbl : List (Str × Int)) : Prop where
  ex : ∃ es n, KDict K w d es n ∧ ∀ z i, tbl.lookup z = some i → ∃ u, PySem.W.nsIn K d z = some (some u) ∧ RelV (.int i) u
def rKIn (K : PySem.W.Frag) (w : World) (neg : Bool) (d : Addr) (tbl : List (Str × Int)) : R2 := fun x y H Q => ∃ z i, x = .str z ∧ y = .ref d ∧ tbl.lookup z = some i ∧ Q (.bl (!neg)) H
theorem op_kin {X : Cx} {d : Addr} {tbl : List (Str × Int)} (D : KD3 X.K X.w d tbl) : OpR X (compareOp .In) (rKIn X.K X.w false d tbl) := by
  intro pins s σ H x y v u Q I rx ry h
  obtain ⟨z, i, rfl, rfl, e, q⟩ := h
  obtain ⟨es, n, D, g⟩ := D.ex
  obtain ⟨u0, h1, h2⟩ := g z i e
  exact op_in_kd D pins s σ H _ _ v u Q I rx ry ⟨z, some u0, rfl, rfl, h1, q⟩
theorem op_knin {X : Cx} {d : Addr} {tbl : List (Str × Int)} (D : KD3 X.K X.w d tbl) : OpR X (compareOp .NotIn) (rKIn X.K X.w true d tbl) := by
  intro pins s σ H x y v u Q I rx ry h
  obtain ⟨z, i, rfl, rfl, e, q⟩ := h
  obtain ⟨es, n, D, g⟩ := D.ex
  obtain ⟨u0, h1, h2⟩ := g z i e
  exact op_notIn_kd D pins s σ H _ _ v u Q I rx ry ⟨z, some u0, rfl, rfl, h1, q⟩
def oKIn (neg : Bool) (dC : Addr) (tbl : List (Str × Int)) (x y : Rs) (ρ : En) (Q : Rs → En → Prop) : Prop := wd x ρ fun dx => wd y ρ fun dy => match dx, dy with
  | .str z, .cls C => C = dC ∧ wo (tbl.lookup z) fun _ => Q (.val (.bl (!neg))) ρ
  | _, _ => False
theorem RV.cls (R : Rel F U ρ σ H) {r : Rs} {v : V} {C : Addr} (h : RV F U σ H r v) (e : r.dat ρ = some (.cls C)) : v = .ref C := by
  rcases h.get R e with q | ⟨a, _, q⟩
  · simpa only [Rp] using q
  · exact q.elim
theorem simKIn {w : World} {neg : Bool} {dC : Addr} {tbl : List (Str × Int)} : SimR2 K (rKIn K w neg dC tbl) (oKIn neg dC tbl) := by
  intro F U ρ σ H x y rx ry Q3 Q2 e R hx hy h k
  obtain ⟨dx, ex, h1⟩ := wd_out h
  obtain ⟨dy, ey, h2⟩ := wd_out h1
  clear h h1
  cases dx <;> first | exact h2.elim | skip
  cases dy <;> first | exact h2.elim | skip
  obtain ⟨e1, h3⟩ := h2
  obtain ⟨i, ei, h3⟩ := wo_out h3
  exact ⟨_, i, hx.str R ex, by rw [hy.cls R ey, e1], ei, k (.val _) _ ρ H R (.refl R) rvB h3⟩
def rKGet (K : PySem.W.Frag) (w : World) (d : Addr) (tbl : List (Str × Int)) : R2 := fun x y H Q => ∃ z i, x = .ref d ∧ y = .str z ∧ tbl.lookup z = some i ∧ Q (.int i) H
theorem ix_kget {X : Cx} {d : Addr} {tbl : List (Str × Int)} (D : KD3 X.K X.w d tbl) : IxR X (rKGet X.K X.w d tbl) := by
  intro value slice pins s σ H x y v u Q I rx ry h hs
  obtain ⟨z, i, rfl, rfl, e, q⟩ := h
  obtain ⟨es, n, D, g⟩ := D.ex
  obtain ⟨u0, h1, h2⟩ := g z i e
  exact ix_kdict value slice pins s σ H _ _ v u Q I rx ry ⟨d, z, .int i, rfl, rfl, ⟨es, n, u0, D.at_, D.lit, h1, h2⟩, q⟩ hs
def oKGet (dC : Addr) (tbl : List (Str × Int)) (x y : Rs) (ρ : En) (Q : Rs → En → Prop) : Prop := wd x ρ fun dx => wd y ρ fun dy => match dx, dy with
  | .cls C, .str z => C = dC ∧ wo (tbl.lookup z) fun i => Q (.val (.int i)) ρ
  | _, _ => False
theorem simKGet {w : World} {dC : Addr} {tbl : List (Str × Int)} : SimR2 K (rKGet K w dC tbl) (oKGet dC tbl) := by
  intro F U ρ σ H x y rx ry Q3 Q2 e R hx hy h k
  obtain ⟨dx, ex, h1⟩ := wd_out h
  obtain ⟨dy, ey, h2⟩ := wd_out h1
  clear h h1
  cases dx <;> first | exact h2.elim | skip
  cases dy <;> first | exact h2.elim | skip
  obtain ⟨e1, h3⟩ := h2
  obtain ⟨i, ei, h3⟩ := wo_out h3
  exact ⟨_, i, by rw [hx.cls R ex, e1], hy.str R ey, ei, k (.val _) _ ρ H R (.refl R) rvI h3⟩
end
section
variable {ι : Type} {X : ι → Cx} {K : PySem.W.Frag} {pos p p2 apos cpos : Pos} {e a b c o : Expr} {f g h : T3E} {x : Str}
theorem istr {tg : Expr} (ha : QE K X e f) : QI K X false tg e (iSt f) := let ⟨_, h1, h2⟩ := ha.ex; ⟨_, fun i => pi_str (h1 i), simISt h2⟩
theorem qneg (ha : QE K X a f) : QE K X (.UnaryOp .USub a pos) (eNeg f) := let ⟨_, h1, h2⟩ := ha.ex; ⟨_, fun i => pe_un un_neg (h1 i), simNeg h2⟩
theorem qdg2 {k : Nat} (hR : ∀ i, Room k (X i).A) (ho : QE K X o f) (he : QE K X a g) (hf : QE K X b h) (m : ∀ i, M2 (X i) o "get" apos a b cpos := by exact fun _ => ⟨rfl, rfl, rfl, rfl⟩) : QE K X (.Call (.Attribute o "get" apos) [a, b] [] cpos) (eDG2 f g h) :=
  let ⟨_, a1, a2⟩ := ho.ex; let ⟨_, b1, b2⟩ := he.ex; let ⟨_, c1, c2⟩ := hf.ex; ⟨_, fun i => pe_dget2 (hu_of (hR i)) (a1 i) (b1 i) (c1 i) (m i), simDG2 a2 b2 c2⟩
theorem cKIn {w : World} {d : Addr} {tbl : List (Str × Int)} (D : ∀ i, KD3 K (X i).w d tbl) (hw : ∀ i, (X i).w = w := by exact fun _ => rfl) (hK : ∀ i, (X i).K = K := by exact fun _ => rfl) : QC K X .In (oKIn false d tbl) :=
  ⟨rKIn K w false d tbl, fun i => by
    have e := hK i; have e2 := hw i; have D := D i; subst e2; subst e; exact op_kin D, simKIn⟩
theorem cKNotIn {w : World} {d : Addr} {tbl : List (Str × Int)} (D : ∀ i, KD3 K (X i).w d tbl) (hw : ∀ i, (X i).w = w := by exact fun _ => rfl) (hK : ∀ i, (X i).K = K := by exact fun _ => rfl) : QC K X .NotIn (oKIn true d tbl) :=
  ⟨rKIn K w true d tbl, fun i => by
    have e := hK i; have e2 := hw i; have D := D i; subst e2; subst e; exact op_knin D, simKIn⟩
theorem qkget {w : World} {d : Addr} {tbl : List (Str × Int)} (D : ∀ i, KD3 K (X i).w d tbl) (ha : QE K X a f) (hb : QE K X b g) (hs : PlainIx b := by exact fun _ _ => rfl) (hw : ∀ i, (X i).w = w := by exact fun _ => rfl) (hK : ∀ i, (X i).K = K := by exact fun _ => rfl) : QE K X (.Subscript a b pos) (eOp (oKGet d tbl) f g) :=
  let ⟨t, h1, h2⟩ := ha.ex; let ⟨u, h3, h4⟩ := hb.ex
  ⟨tOp (rKGet K w d tbl) t u, fun i => by
    have e := hK i; have e2 := hw i; have D := D i; subst e2; subst e; exact pe_ix (ix_kget D) (h1 i) (h3 i) hs, simOp simKGet h2 h4⟩
end
end L3

set_option Elab.async false
set_option linter.all false
set_option maxRecDepth 100000
namespace L3
open PySem PySem.Spec L2
/-! ### a def of the top: its facts, and what a walk makes of them -/
/-- a def as the top has made it, without defaults -/
structure Df (K : PySem.W.Frag) (x qual : Str) (st : Stmt) (f : Addr) : Prop where
  ex : ∃ fd : FuncData, FunD K x qual (defArgs st) (defBody st) (defScope st) [] [] f fd
/-- the parameters take the values one by one -/
def BindN (x qual : Str) (st : Stmt) (ps : List Str) : Prop := ∀ (kV doc pm : Value) (an : Option Addr) (cdv ct : Value) (us : List Value), us.length = ps.length → bindArgs (PySem.W.fnOf x qual (defArgs st) (defBody st) (defScope st) .none kV doc pm an cdv ct) ⟨us, []⟩ = pure (ps.zip us)
section
variable {P : Program} {w : World} {K : PySem.W.Frag} {mg : Str → Option Value} {base : Heap} {x gx qual : Str} {st : Stmt} {f : Addr} {N ps : List Str} {k n : Nat} {ms : List Md} {sp : S3} {t3 : T3S}
theorem df_mk {oc kV doc pm cdv ct : Value} {od an : Option Addr} {sl : Array (Option Value)} (l : K.lookup f = some ⟨oc, od, .func (PySem.W.fnOf x qual (defArgs st) (defBody st) (defScope st) .none kV doc pm an cdv ct), sl⟩) (c : PySem.W.codeIn K cdv qual = true) (kp : PySem.W.keepIn K (.ref f) = true) : Df K x qual st f :=
  ⟨_, ⟨oc, od, .none, kV, doc, pm, an, cdv, ct, sl, rfl, l, c, .inl ⟨rfl, rfl⟩, .inl rfl⟩, kp⟩
theorem fk (F : Df K x qual st f) (hb : BindN x qual st ps) (S : FnScope N ps (defScope st)) (hl : ps.length = ms.length) (hN : N.length = ms.length + n) (hw : QB K (CxR k P w K mg base N qual (defScope st) f) (defBody st) t3)
    (hsp : ∀ ds QR QO, sp ds QR QO → ds.length = ms.length → t3 (endE ms ds QR QO) (startE n ms ds)) : ∃ fd, FnOk P w K mg base CX0 (k + 1) f fd ps (Lift K ms sp) ∧ Binds K fd ps [] := by
  obtain ⟨fd, F⟩ := F.ex
  exact ⟨fd, fn3 F S hl hN hw hsp, F.bindsN hb⟩
theorem ck (F : ∃ f, Df K x qual st f ∧ mg gx = some (.ref f)) (hb : BindN x qual st ps) (S : FnScope N ps (defScope st)) (hl : ps.length = ms.length) (hN : N.length = ms.length + n) (hw : ∀ f, QB K (CxR k P w K mg base N qual (defScope st) f) (defBody st) t3)
    (hsp : ∀ ds QR QO, sp ds QR QO → ds.length = ms.length → t3 (endE ms ds QR QO) (startE n ms ds)) : C3 P w K mg base (k + 1) gx ms sp := by
  obtain ⟨f, F, hm⟩ := F
  obtain ⟨fd, h1, h2⟩ := fk F hb S hl hN (hw f) hsp
  obtain ⟨_, F⟩ := F.ex
  exact ⟨f, fd, ps, h1, hm, F.kp, h2⟩
/-- a promise that is never asked -/
theorem ck0 (F : ∃ f, Df K x qual st f ∧ mg gx = some (.ref f)) (hb : BindN x qual st ps) (S : FnScope N ps (defScope st)) (h0 : ∀ ds QR QO, ¬ sp ds QR QO) : C3 P w K mg base (k + 1) gx ms sp := by
  obtain ⟨f, F, hm⟩ := F
  obtain ⟨fd, F⟩ := F.ex
  refine ⟨f, fd, ps, F.ok S (fun vs H Q E h => ?_) (fun cdv A outer s H vs Q E hr h => ?_), hm, F.kp, F.bindsN hb⟩
  all_goals
    obtain ⟨U, ds, QR, QO, A, h, _⟩ := h
    exact (h0 _ _ _ h).elim
variable {C : Addr} {m : Str}
theorem mk3 (F : ∃ f, Df K x qual st f ∧ Mk K C f ∧ mg gx = some (.ref C)) (hb : BindN x qual st ps) (S : FnScope N ps (defScope st)) (hl : ps.length = ms.length + 1) (hN : N.length = ms.length + 1 + n) (hw : ∀ f, QB K (CxR k P w K mg base N qual (defScope st) f) (defBody st) t3)
    (hsp : ∀ ds QR QO, sp ds QR QO → ds.length = ms.length + 1 → t3 (endE (.par :: ms) ds QR QO) (startE n (.par :: ms) ds)) : Mk3 P w K mg base (k + 1) gx C ms sp := by
  obtain ⟨f, F, M, hm⟩ := F
  obtain ⟨fd, h1, h2⟩ := fk (ms := .par :: ms) F hb S hl hN (hw f) hsp
  exact ⟨f, fd, ps, M, h1, hm, h2⟩
theorem me3 (c : Cls K C) (F : ∃ f, Df K x qual st f ∧ Meth K C m f) (hb : BindN x qual st ps) (S : FnScope N ps (defScope st)) (hl : ps.length = ms.length) (hN : N.length = ms.length + n) (hw : ∀ f, QB K (CxR k P w K mg base N qual (defScope st) f) (defBody st) t3)
    (hsp : ∀ ds QR QO, sp ds QR QO → ds.length = ms.length → t3 (endE ms ds QR QO) (startE n ms ds)) : Me3 P w K mg base (k + 1) C m ms sp := by
  obtain ⟨f, F, M⟩ := F
  obtain ⟨fd, h1, h2⟩ := fk F hb S hl hN (hw f) hsp
  exact ⟨f, fd, ps, c, M, h1, h2⟩
theorem pr3 {md : Md} (c : Cls K C) (F : ∃ p f, Df K x qual st f ∧ PropOf K C m p f) (hb : BindN x qual st ps) (S : FnScope N ps (defScope st)) (hl : ps.length = 1) (hN : N.length = 1 + n) (hw : ∀ f, QB K (CxR k P w K mg base N qual (defScope st) f) (defBody st) t3)
    (hsp : ∀ ds QR QO, sp ds QR QO → ds.length = 1 → t3 (endE [md] ds QR QO) (startE n [md] ds)) : Pr3 P w K mg base (k + 1) C m md sp := by
  obtain ⟨p, f, F, M⟩ := F
  obtain ⟨fd, h1, h2⟩ := fk (ms := [md]) F hb S hl hN (hw f) hsp
  exact ⟨p, f, fd, ps, c, M, h1, h2⟩
theorem op3 {op : CmpOp} (F : ∃ f, Df K x qual st f ∧ PySem.W.findIn K (.ref C) (cmpInfo op).2.1 = some (some (.ref f)) ∧ PySem.W.isFn K (.ref f) = true) (hb : BindN x qual st ps) (S : FnScope N ps (defScope st)) (hl : ps.length = ms.length) (hN : N.length = ms.length + n) (hw : ∀ f, QB K (CxR k P w K mg base N qual (defScope st) f) (defBody st) t3)
    (hsp : ∀ ds QR QO, sp ds QR QO → ds.length = ms.length → t3 (endE ms ds QR QO) (startE n ms ds)) : Op3 P w K mg base (k + 1) C op ms sp := by
  obtain ⟨f, F, M1, M2⟩ := F
  obtain ⟨fd, h1, h2⟩ := fk F hb S hl hN (hw f) hsp
  exact ⟨f, fd, ps, M1, M2, h1, h2⟩
theorem kit_self : PySem.W.kitOne K (.ref C) (.ref C) = some true := by
  unfold PySem.W.kitOne
  exact if_pos (beq_self_eq_true _)
/-- the law's end: the script as the run hands it in -/
theorem hsp3 {q : Nat} (h : ∀ ns : List Int, ns.length ≤ q → ∀ QO, (∀ d ds, ¬ QO d ds) → sp [.scr ns] (fun d _ => d = .bl true) QO) (H : Hp) (a : Addr) (ns : List Int) (hl : ns.length ≤ q) (hO : Only H) (hS : SqL K H a (ns.map V.int)) :
    Lift K [.shr] sp [.ref a] H (fun v _ => v = .bl true) fun _ _ _ => False := by
  refine ⟨fun _ => False, [.scr ns], fun d _ => d = .bl true, fun _ _ => False, ⟨rfl, rfl, ?_, ?_, fun a z => z.elim⟩, h ns hl _ (fun _ _ z => z), ?_, fun _ _ _ _ _ _ _ _ _ z => z.elim⟩
  · intro i m d v h1 h2 h3
    match i, h1, h2, h3 with
    | 0, h1, h2, h3 =>
      cases h1; cases h2; cases h3
      refine ⟨a, rfl, ?_⟩
      rcases hS with (z | z) | z
      · rcases hO a with y | ⟨o, xs, y⟩
        · rw [y] at z; cases z
        · rw [y] at z; cases z
      · obtain ⟨o, z⟩ := z
        exact .inr ⟨o, z, fun z => z⟩
      · exact .inl z
    | i + 1, h1, _, _ => cases h1
  · intro i j m m' d d' v v' x h1 h2 h3 h4 h5 h6 h7 h8
    match i, h1 with
    | 0, h1 => cases h1; exact absurd h7 (reg_noW rfl)
    | i + 1, h1 => cases h1
  · intro v H' U' d ds' _ r e
    subst e
    exact r
end
/-! ### the facts that the head answers -/
section
variable {K : PySem.W.Frag} {h : Heap} {mg : Str → Option Value} {x qual : Str} {st : Stmt} {f C p : Addr} {oc kV doc pm cdv ct : Value} {od an : Option Addr} {sl : Array (Option Value)} {m : Str} {w : World}
theorem dg_mk (X : K.In h) (G : h.Ns mainGlobals mg) (a : PySem.W.nsIn K mainGlobals x = some (some (.ref f))) (l : K.lookup f = some ⟨oc, od, .func (PySem.W.fnOf x qual (defArgs st) (defBody st) (defScope st) .none kV doc pm an cdv ct), sl⟩) (c : PySem.W.codeIn K cdv qual = true) (k : PySem.W.keepIn K (.ref f) = true) :
    ∃ f, Df K x qual st f ∧ mg x = some (.ref f) := ⟨f, df_mk l c k, PySem.W.mg_of X G a⟩
theorem dm_mk {gx : Str} (a : PySem.W.findIn K (.ref C) "__init__" = some (some (.ref f))) (l : K.lookup f = some ⟨oc, od, .func (PySem.W.fnOf x qual (defArgs st) (defBody st) (defScope st) .none kV doc pm an cdv ct), sl⟩) (c : PySem.W.codeIn K cdv qual = true) (k : PySem.W.keepIn K (.ref f) = true)
    (i : PySem.W.isFn K (.ref f) = true) (mk : PySem.W.makesIn K C = true) (kp : PySem.W.keepIn K (.ref C) = true) (g : mg gx = some (.ref C)) : ∃ f, Df K x qual st f ∧ Mk K C f ∧ mg gx = some (.ref C) := ⟨f, df_mk l c k, ⟨mk, a, i, kp⟩, g⟩
theorem de_mk (a : PySem.W.findIn K (.ref C) m = some (some (.ref f))) (l : K.lookup f = some ⟨oc, od, .func (PySem.W.fnOf x qual (defArgs st) (defBody st) (defScope st) .none kV doc pm an cdv ct), sl⟩) (c : PySem.W.codeIn K cdv qual = true) (k : PySem.W.keepIn K (.ref f) = true)
    (i : PySem.W.isFn K (.ref f) = true) : ∃ f, Df K x qual st f ∧ Meth K C m f := ⟨f, df_mk l c k, ⟨a, i, k⟩⟩
theorem do_mk (a : PySem.W.findIn K (.ref C) m = some (some (.ref f))) (l : K.lookup f = some ⟨oc, od, .func (PySem.W.fnOf x qual (defArgs st) (defBody st) (defScope st) .none kV doc pm an cdv ct), sl⟩) (c : PySem.W.codeIn K cdv qual = true) (k : PySem.W.keepIn K (.ref f) = true)
    (i : PySem.W.isFn K (.ref f) = true) : ∃ f, Df K x qual st f ∧ PySem.W.findIn K (.ref C) m = some (some (.ref f)) ∧ PySem.W.isFn K (.ref f) = true := ⟨f, df_mk l c k, a, i⟩
theorem dp_mk {rest : List Value} (a : PySem.W.findIn K (.ref C) m = some (some (.ref p))) (r : PySem.W.recIn K p "property" = some (.ref f :: rest)) (g : PySem.W.specialIn K (.ref p) "__get__" = some (some (.builtin "property.__get__"))) (t : PySem.W.takesIn K (.ref p) = some true)
    (l : K.lookup f = some ⟨oc, od, .func (PySem.W.fnOf x qual (defArgs st) (defBody st) (defScope st) .none kV doc pm an cdv ct), sl⟩) (c : PySem.W.codeIn K cdv qual = true) (k : PySem.W.keepIn K (.ref f) = true) : ∃ p f, Df K x qual st f ∧ PropOf K C m p f :=
  ⟨p, f, df_mk l c k, ⟨a, g, t, rest, r⟩⟩
theorem gl_mk {v : V} {u : Value} (X : K.In h) (G : h.Ns mainGlobals mg) (a : PySem.W.nsIn K mainGlobals x = some (some u)) (r : RelV v u) : ∃ u, mg x = some u ∧ RelV v u := ⟨u, PySem.W.mg_of X G a, r⟩
def TblOk (K : PySem.W.Frag) (d : Addr) : List (Str × Int) → Prop
  | [] => True
  | (z, i) :: r => (∃ u, PySem.W.nsIn K d z = some (some u) ∧ RelV (.int i) u) ∧ TblOk K d r
theorem tb_mk {d : Addr} {z : Str} {i : Int} {u : Value} {r : List (Str × Int)} (a : PySem.W.nsIn K d z = some (some u)) (e : RelV (.int i) u) (n : TblOk K d r) : TblOk K d ((z, i) :: r) := ⟨⟨u, a, e⟩, n⟩
theorem TblOk.get {d : Addr} : ∀ {tbl : List (Str × Int)}, TblOk K d tbl → ∀ z i, tbl.lookup z = some i → ∃ u, PySem.W.nsIn K d z = some (some u) ∧ RelV (.int i) u
  | [], _, z, i, e => by cases e
  | (y, j) :: r, T, z, i, e => by
    rw [List.lookup_cons] at e
    split at e
    · rename_i q
      cases e
      have : z = y := by simpa using q
      subst this
      exact T.1
    · exact TblOk.get T.2 z i e
theorem kd_mk {d : Addr} {es : Array DictEntry} {n : Nat} {tbl : List (Str × Int)} (l : K.lookup d = some ⟨.type "dict", none, .dict es n, #[]⟩) (lit : PySem.W.KeysLit w.params es.toList) (low : (d == sysModules) = false) (T : TblOk K d tbl) : KD3 K w d tbl := ⟨es, n, ⟨l, lit, low⟩, T.get⟩
end
end L3

set_option Elab.async false
set_option linter.all false
set_option maxRecDepth 100000
namespace L3
open PySem PySem.Spec L2
open PyProof.Rows (b2i envOfC)
section
variable {F : Fr} {U U2 : US} {ρ ρ' ρ2 : En} {σ σ2 : L2.St} {H H' H2 : Hp} {K : PySem.W.Frag}
/-! ### an owned slot is frozen: from here on it is shared -/
theorem Rel.freeze (R : Rel F U ρ σ H) {i : Nat} {d : D} (h : ρ[i]? = some (.own d)) : ∃ U', Rel F U' (ρ.set i (.shr d)) σ H := by
  have hi : i < σ.length := by rw [← R.len]; exact (List.getElem?_eq_some_iff.mp h).1
  have hσ : σ[i]? = some σ[i] := List.getElem?_eq_getElem hi
  obtain ⟨a, ea, u, t⟩ := R.slot i _ _ h hσ
  have e3 : σ[i]? = some (some (.ref a)) := hσ.trans (by rw [ea])
  have oa : Own ρ σ a := Own.root h rfl e3
  have P : Pres H U H (fun x => U x ∧ x ≠ a) := fun x o h n => ⟨h, fun z => n z.1⟩
  have own' : ∀ x, Own (ρ.set i (.shr d)) σ x → Own ρ σ x ∧ x ≠ a := fun x ⟨j, s, o, q1, q2, q3⟩ => by
    rcases set_get q1 with ⟨e, rfl, _⟩ | ⟨ne, q1⟩
    · exact absurd q3 (reg_noW rfl)
    · exact ⟨⟨j, s, o, q1, q2, q3⟩, fun e => ne (R.inj i j _ _ _ _ a h q1 e3 q2 ⟨rfl, .inl rfl⟩ (e ▸ q3))⟩
  refine ⟨fun x => U x ∧ x ≠ a, by rw [List.length_set]; exact R.len, fun j s o q1 q2 => ?_, fun j e o q1 q2 => ?_, fun j k s t o o' x q1 q2 q3 q4 q5 q6 => ?_, fun x z => R.tr x z.1, R.keep, R.ktr, fun x o h n z => R.shar x o h n z.1, fun x z n => ⟨R.up x z n, fun e => n (R.own0 (e ▸ oa) z)⟩, fun x z => R.new x (own' x z).1, fun j s l q1 q2 => ?_, R.wu, R.b0, R.u0⟩
  · rcases set_get q1 with ⟨e, rfl, _⟩ | ⟨ne, q1⟩
    · subst e
      rw [e3] at q2; cases q2
      exact ⟨_, rfl, rp_of_top (t.pres P fun _ h => h) fun z => z.2 rfl⟩
    · refine (R.slot j s o q1 q2).pres P fun x hx ux => ⟨⟨ux, fun e => ?_⟩, fun _ h => h⟩
      subst e
      exact ne (R.inj i j _ _ _ _ x h q1 e3 q2 ⟨rfl, .inl rfl⟩ hx)
  · rcases set_get q1 with ⟨e1, e2, _⟩ | ⟨ne, q1⟩
    · cases e2
    · rcases R.bor j e o q1 q2 with ⟨v, e1, q⟩ | ⟨b, e1, q, n⟩
      · exact .inl ⟨v, e1, Rp.pres P e v q⟩
      · exact .inr ⟨b, e1, q.pres P fun _ _ _ h => h, fun x hx z => n x hx (own' x z).1⟩
  · rcases set_get q1 with ⟨e, rfl, _⟩ | ⟨ne, q1'⟩
    · exact absurd q5 (reg_noW rfl)
    · rcases set_get q2 with ⟨e, rfl, _⟩ | ⟨ne2, q2'⟩
      · exact absurd q6 (reg_noW rfl)
      · exact R.inj j k s t o o' x q1' q2' q3 q4 q5 q6
  · rcases set_get q1 with ⟨e, rfl, _⟩ | ⟨ne, q1⟩
    · cases q2
    · exact R.lock j s l q1 q2
def sFrz (i : Nat) (f : T3S) : T3S := fun E ρ => match ρ[i]? with
  | some (.own d) => f E (ρ.set i (.shr d))
  | _ => False
theorem simFrz {t : TS} {f : T3S} (i : Nat) (h : SimS K t f) : SimS K t (sFrz i f) := by
  intro F U ρ σ H D3 D2 e R q k
  have q : (match ρ[i]? with | some (.own d) => f D3 (ρ.set i (.shr d)) | _ => False) := q
  cases hs : ρ[i]? with
  | none => rw [hs] at q; exact q.elim
  | some s =>
    rw [hs] at q
    cases s with
    | own d =>
      obtain ⟨U', R'⟩ := R.freeze hs
      exact h F U' _ σ H D3 D2 e R' q k
    | _ => exact q.elim

/-! ### an instance with boxes: its fields -/
theorem ov_of_rp {d : D} {v : V} (h : Rp K H U d v) : Ov K H U d v := by
  cases d <;> first | exact h | exact (noBx h).elim
theorem OvF.put {f : Str} {d : D} {v : V} : ∀ {ds : List (Str × D)} {vs : List (Str × V)}, OvF K H U ds vs → Ov K H U d v → OvF K H U (putF' f d ds) (putF f v vs)
  | [], _, h, q => by simp only [OvF] at h; subst h; exact ⟨v, [], rfl, q, rfl⟩
  | (k, d') :: ds, _, h, q => by
    simp only [OvF] at h
    obtain ⟨v', r, rfl, h1, h2⟩ := h
    by_cases e : k = f
    · simp only [putF', putF, if_pos e]; exact ⟨v, r, rfl, q, h2⟩
    · simp only [putF', putF, if_neg e]; exact ⟨v', _, rfl, h1, OvF.put h2 q⟩
theorem OvF.len : ∀ {ds : List (Str × D)} {vs : List (Str × V)}, OvF K H U ds vs → vs.length = ds.length
  | [], _, h => by simp only [OvF] at h; rw [h]; rfl
  | (k, d) :: ds, _, h => by
    simp only [OvF] at h
    obtain ⟨v, r, rfl, _, h2⟩ := h
    rw [List.length_cons, List.length_cons, OvF.len h2]
theorem bxsF_cons_sub {k : Str} {d : D} {fs : List (Str × D)} {x : Addr} (h : x ∈ bxsF fs) : x ∈ bxsF ((k, d) :: fs) := by
  cases d <;> first | exact h | exact List.mem_cons_of_mem _ h
theorem bxsF_put_sub {f : Str} {d : D} {x : Addr} : ∀ {fs : List (Str × D)}, x ∈ bxsF (putF' f d fs) → x ∈ bxsF fs ∨ x ∈ bxsF [(f, d)]
  | [], h => .inr h
  | (k, d') :: fs, h => by
    by_cases e : k = f
    · rw [putF', if_pos e] at h
      have h : x ∈ bxsF [(k, d)] ∨ x ∈ bxsF fs := by
        cases d <;> first | exact .inr h | (rcases List.mem_cons.mp h with h | h; exact .inl (by rw [h]; exact List.mem_cons_self ..); exact .inr h)
      rcases h with h | h
      · exact .inr (by rw [← e]; exact h)
      · exact .inl (bxsF_cons_sub h)
    · rw [putF', if_neg e] at h
      have h : x ∈ bxsF [(k, d')] ∨ x ∈ bxsF (putF' f d fs) := by
        cases d' <;> first | exact .inr h | (rcases List.mem_cons.mp h with h | h; exact .inl (by rw [h]; exact List.mem_cons_self ..); exact .inr h)
      rcases h with h | h
      · refine .inl ?_
        cases d' <;> first | (cases h; done) | (rcases List.mem_cons.mp h with h | h; (rw [h]; exact List.mem_cons_self ..); cases h)
      · exact (bxsF_put_sub h).imp bxsF_cons_sub id
theorem bxsF_put_nodup {f : Str} {d : D} (hd : ∀ x, x ∈ bxsF [(f, d)] → True) : ∀ {fs : List (Str × D)}, (bxsF fs).Nodup → (∀ x, x ∈ bxsF [(f, d)] → x ∉ bxsF fs) → (bxsF [(f, d)]).Nodup → (bxsF (putF' f d fs)).Nodup
  | [], _, _, h => h
  | (k, d') :: fs, h, ha, h1 => by
    have tl : (bxsF fs).Nodup := by cases d' <;> first | exact h | exact (List.nodup_cons.mp h).2
    by_cases e : k = f
    · rw [putF', if_pos e]
      cases d <;> first | exact tl | skip
      rename_i b d2
      refine List.nodup_cons.mpr ⟨fun z => ha b (List.mem_cons_self ..) (bxsF_cons_sub z), tl⟩
    · rw [putF', if_neg e]
      have ih := bxsF_put_nodup hd tl (fun x hx z => ha x hx (bxsF_cons_sub z)) h1
      cases d' <;> first | exact ih | skip
      rename_i b d2
      refine List.nodup_cons.mpr ⟨fun z => ?_, ih⟩
      rcases bxsF_put_sub z with z | z
      · exact (List.nodup_cons.mp h).1 z
      · exact ha b z (List.mem_cons_self ..)
/-- the root of an instance with boxes is written; it may have a new box -/
theorem Rel.writeN (R : Rel F U ρ σ H) {i : Nat} {s : Sl} {a : Addr} {d' : D} {o' : HO} (h1 : ρ[i]? = some s) (h2 : s.isW = true) (h3 : σ[i]? = some (some (.ref a)))
    (hb : ∀ y, y ∈ (s.upd d').bxs → y ∈ s.bxs ∨ ((F.W0 y ∨ F.H0 y = none) ∧ ¬ Own ρ σ y ∧ ∀ (j : Nat) (e : D) (b : Addr), ρ[j]? = some (.brw e) → σ[j]? = some (some (.ref b)) → e.reg b y → Rp F.K H U e (.ref b)))
    (new : SlotOk F.K (upd H a o') U (s.upd d') (some (.ref a))) : Rel F U (ρ.set i (s.upd d')) σ (upd H a o') := by
  have hoa : Own ρ σ a := Own.root h1 h2 h3
  have hu : U a := R.ownU hoa
  have p : Pres H U (upd H a o') U := fun y o h n => ⟨by rw [upd_ne (fun e => n (by rw [e]; exact hu))]; exact h, n⟩
  have own' : ∀ y, Own (ρ.set i (s.upd d')) σ y → Own ρ σ y ∨ ((F.W0 y ∨ F.H0 y = none) ∧ ¬ Own ρ σ y ∧ ∀ (j : Nat) (e : D) (b : Addr), ρ[j]? = some (.brw e) → σ[j]? = some (some (.ref b)) → e.reg b y → Rp F.K H U e (.ref b)) := fun y ⟨j, t, o, q1, q2, q3⟩ => by
    rcases set_get q1 with ⟨e, rfl, _⟩ | ⟨_, q1⟩
    · subst e
      rcases q3.2 with z | z
      · exact .inl ⟨i, s, o, h1, q2, h2, .inl z⟩
      · rcases hb y z with z | z
        · exact .inl ⟨i, s, o, h1, q2, h2, .inr z⟩
        · exact .inr z
    · exact .inl ⟨j, t, o, q1, q2, q3⟩
  refine ⟨by rw [List.length_set]; exact R.len, fun j t o q1 q2 => ?_, fun j d o q1 q2 => ?_, fun j k t u o o2 b q1 q2 q3 q4 q5 q6 => ?_, fun y u => ?_, fun y o q n => ?_, fun y o q => ?_, R.shar, R.up, fun y q => ?_, fun j t l q1 q2 => ?_, R.wu, R.b0, R.u0⟩
  · rcases set_get q1 with ⟨e, rfl, _⟩ | ⟨ne, q1⟩
    · subst e
      rw [h3] at q2; cases q2
      exact new
    · refine (R.slot j t o q1 q2).pres p fun y hy u => ⟨u, fun w hw => ?_⟩
      have nb : y ≠ a := fun e => ne (R.inj i j s t _ _ a h1 q1 h3 q2 ⟨h2, .inl rfl⟩ (e ▸ hy))
      rw [upd_ne nb]; exact hw
  · rcases set_get q1 with ⟨e, e2, _⟩ | ⟨ne, q1⟩
    · have : (s.upd d').isW = true := isW_upd.trans h2
      rw [← e2] at this; cases this
    · rcases R.bor j d o q1 q2 with ⟨v, e1, q⟩ | ⟨b, e1, q, n⟩
      · exact .inl ⟨v, e1, Rp.pres p d v q⟩
      · subst e1
        by_cases ex : ∃ y, d.reg b y ∧ Own (ρ.set i (s.upd d')) σ y
        · obtain ⟨y, hy, z⟩ := ex
          rcases own' y z with z | ⟨_, _, z⟩
          · exact absurd z (n y hy)
          · exact .inl ⟨_, rfl, Rp.pres p d _ (z j d b q1 q2 hy)⟩
        · refine .inr ⟨b, rfl, q.pres p (fun y hy w hw => ?_), fun y hy z => ex ⟨y, hy, z⟩⟩
          have nb : y ≠ a := fun e => n y hy (by rw [e]; exact hoa)
          rw [upd_ne nb]; exact hw
  · have f : ∀ {j : Nat} {t : Sl} {o : Option V}, (ρ.set i (s.upd d'))[j]? = some t → σ[j]? = some o → t.reg o b → (∃ t' : Sl, ρ[j]? = some t' ∧ t'.reg o b) ∨ (i = j ∧ ¬ Own ρ σ b) := fun {j t o} q1 q2 q3 => by
      rcases set_get q1 with ⟨e, rfl, _⟩ | ⟨ne, q1⟩
      · subst e
        rcases q3.2 with z | z
        · exact .inl ⟨s, h1, h2, .inl z⟩
        · rcases hb b z with z | z
          · exact .inl ⟨s, h1, h2, .inr z⟩
          · exact .inr ⟨rfl, z.2.1⟩
      · exact .inl ⟨t, q1, q3⟩
    rcases f q1 q3 q5 with ⟨t', z1, z2⟩ | ⟨ei, no⟩
    · rcases f q2 q4 q6 with ⟨u', z3, z4⟩ | ⟨ei, no⟩
      · exact R.inj j k t' u' o o2 b z1 z3 q3 q4 z2 z4
      · exact absurd ⟨j, t', o, z1, q3, z2⟩ no
    · rcases f q2 q4 q6 with ⟨u', z3, z4⟩ | ⟨ei2, no⟩
      · exact absurd ⟨k, u', o2, z3, q4, z4⟩ no
      · exact ei.symm.trans ei2
  · by_cases e : y = a
    · subst e; exact ⟨_, upd_same⟩
    · obtain ⟨o, h⟩ := R.tr y u
      exact ⟨o, by rw [upd_ne e]; exact h⟩
  · have nx : y ≠ a := fun e => by
      subst e
      rcases R.new y hoa with z | z
      · exact n z
      · rw [z] at q; cases q
    rw [upd_ne nx]; exact R.keep y o q n
  · by_cases e : y = a
    · subst e; exact ⟨_, upd_same⟩
    · obtain ⟨o', h⟩ := R.ktr y o q
      exact ⟨o', by rw [upd_ne e]; exact h⟩
  · rcases own' y q with z | z
    · exact R.new y z
    · exact z.1
  · rcases set_get q1 with ⟨e, rfl, _⟩ | ⟨ne, q1⟩
    · subst e; rw [lk_upd h2] at q2; exact R.lock i s l h1 q2
    · exact R.lock j t l q1 q2
/-- the slot of an instance with boxes, with another field -/
def putO (s : Sl) (C : Addr) (f : Str) (x : D) (k : Sl → Prop) : Prop := match s with
  | .owb (.obj C' fs) => C' = C ∧ fs.length < 1000 ∧ k (.owb (.obj C' (putF' f x fs)))
  | .pab (.obj C' fs) => C' = C ∧ fs.length < 1000 ∧ k (.pab (.obj C' (putF' f x fs)))
  | _ => False
theorem putO_out {s : Sl} {C : Addr} {f : Str} {x : D} {k : Sl → Prop} (h : putO s C f x k) : ∃ fs, s.isW = true ∧ s.dat = some (.obj C fs) ∧ fs.length < 1000 ∧ k (s.upd (.obj C (putF' f x fs))) ∧ s.bxs = bxsF fs ∧ (∀ d', (s.upd d').bxs = d'.bxs) ∧
    (∀ {K : PySem.W.Frag} {H : Hp} {U : US} {o : Option V}, SlotOk K H U s o → ∃ a, o = some (.ref a) ∧ U a ∧ TopB K H U (.obj C fs) a) ∧ (∀ {K : PySem.W.Frag} {H : Hp} {U : US} {d' : D} {a : Addr}, U a → TopB K H U d' a → SlotOk K H U (s.upd d') (some (.ref a))) := by
  cases s <;> first | exact h.elim | skip
  all_goals
    rename_i d
    cases d <;> first | exact h.elim | skip
    obtain ⟨rfl, h1, h2⟩ := h
    exact ⟨_, rfl, rfl, h1, h2, rfl, fun _ => rfl, fun h => h, fun u t => ⟨_, rfl, u, t⟩⟩
/-- a field of such an instance is set -/
theorem Rel.setF (R : Rel F U ρ σ H) {i : Nat} {s : Sl} {C : Addr} {f : Str} {x : D} {v : V} {k : Sl → Prop} (h1 : ρ[i]? = some s) {vo : V} (h3 : σ[i]? = some (some vo)) (hp : putO s C f x k)
    (ov : Ov F.K H U x v) (nb : ∀ y, y ∈ bxsF [(f, x)] → (F.W0 y ∨ F.H0 y = none) ∧ ¬ Own ρ σ y ∧ ∀ (j : Nat) (e : D) (b : Addr), ρ[j]? = some (.brw e) → σ[j]? = some (some (.ref b)) → e.reg b y → Rp F.K H U e (.ref b)) :
    ∃ a dx gs s', vo = .ref a ∧ H a = some (.ins C dx gs) ∧ gs.length < 1000 ∧ k s' ∧ Rel F U (ρ.set i s') σ (upd H a (.ins C dx (putF f v gs))) := by
  obtain ⟨fs, w, hd, hl, hk, eb, eb', get, put⟩ := putO_out hp
  obtain ⟨a, ea, ua, dx, gs, g1, g2, g3⟩ := get (R.slot i s _ h1 h3)
  cases ea
  have oa : Own ρ σ a := Own.root h1 w h3
  have P : Pres H U (upd H a (.ins C dx (putF f v gs))) U := fun y o h n => ⟨by rw [upd_ne (fun e => n (by rw [e]; exact ua))]; exact h, n⟩
  have na : ∀ y, y ∈ bxsF (putF' f x fs) → y ≠ a := fun y hy e => by
    subst e
    rcases bxsF_put_sub hy with z | z
    · exact (List.nodup_cons.mp g3).1 z
    · exact (nb y z).2.1 oa
  have new : OvF F.K (upd H a (.ins C dx (putF f v gs))) U (putF' f x fs) (putF f v gs) := (g2.put ov).pres P fun y hy u => ⟨u, fun o h => by rw [upd_ne (na y hy)]; exact h⟩
  have nd : (bxsF (putF' f x fs)).Nodup := by
    refine bxsF_put_nodup (fun _ _ => trivial) (List.nodup_cons.mp g3).2 (fun y hy z => (nb y hy).2.1 ⟨i, s, _, h1, h3, w, .inr (by rw [eb]; exact z)⟩) ?_
    cases x <;> first | exact List.nodup_nil | exact List.nodup_cons.mpr ⟨fun z => (by cases z), List.nodup_nil⟩
  refine ⟨a, dx, gs, _, rfl, g1, by rw [g2.len]; exact hl, hk, R.writeN h1 w h3 (fun y hy => ?_) (put ua ⟨dx, _, upd_same, new, List.nodup_cons.mpr ⟨fun z => na a z rfl, nd⟩⟩)⟩
  rw [eb'] at hy
  rcases bxsF_put_sub (f := f) (d := x) (fs := fs) hy with z | z
  · exact .inl (by rw [eb]; exact z)
  · exact .inr (nb y z)
/-- o.f = a shared value -/
def sFldX (C : Addr) (f : Str) (fv fo : T3E) : T3S := fun E ρ => fv ρ fun r ρ1 => fo ρ1 fun o ρ2 => match r with
  | .val d => match o with
    | .sl i => wo ρ2[i]? fun s => putO s C f d fun s' => E.nx (ρ2.set i s')
    | _ => False
  | _ => False
theorem simFldX {C : Addr} {f : Str} {tv to : TE} {fv fo : T3E} (c : Cls K C) (n : NoAttr K C f) (hv : SimE K tv fv) (ho : SimE K to fo) : SimS K (sFld K to tv f) (sFldX C f fv fo) := by
  intro F U ρ σ H D3 D2 e R q k
  refine hv F U ρ σ H _ _ e R q fun r v ρ1 H1 R1 s1 q1 h1 => ?_
  refine ho F U ρ1 σ H1 _ _ e R1 h1 fun o vo ρ2 H2 R2 s2 q2 h2 => ?_
  cases r <;> first | exact h2.elim | skip
  cases o <;> first | exact h2.elim | skip
  rename_i d i
  obtain ⟨s, es, h2⟩ := wo_out h2
  have rd : Rp F.K H2 U d v := Rp.pres (s2.pres R1) _ _ q1
  have hb : bxsF [(f, d)] = [] := by cases d <;> first | rfl | exact (noBx rd).elim
  obtain ⟨a, dx, gs, s', rfl, z1, z2, z3, R'⟩ := R2.setF (v := v) es (show σ[i]? = _ from q2) h2 (ov_of_rp rd) fun y hy => by rw [hb] at hy; cases hy
  exact ⟨a, C, dx, gs, rfl, z1, e ▸ c, e ▸ n, z2, k.nx _ _ _ _ R' z3⟩
/-- o.f = a new object, which becomes a box -/
def sFldN (C : Addr) (f : Str) (fv : T3O') (fo : T3E) : T3S := fun E ρ => fv ρ fun d ρ1 => fo ρ1 fun o ρ2 => match o with
  | .sl i => wo ρ2[i]? fun s => ∀ b, putO s C f (.bx b d) fun s' => E.nx (ρ2.set i s')
  | _ => False
theorem simFldN {C : Addr} {f : Str} {tv to : TE} {fv : T3O'} {fo : T3E} (c : Cls K C) (n : NoAttr K C f) (hv : SimEO K tv fv) (ho : SimE K to fo) : SimS K (sFld K to tv f) (sFldN C f fv fo) := by
  intro F U ρ σ H D3 D2 e R q k
  refine hv F U ρ σ H _ _ e R q fun d b ρ1 H1 R1 s1 hb t1 h1 => ?_
  refine ho F _ ρ1 σ H1 _ _ e R1 h1 fun o vo ρ2 H2 R2 s2 q2 h2 => ?_
  cases o <;> first | exact h2.elim | skip
  rename_i i
  obtain ⟨s, es, h2⟩ := wo_out h2
  have no1 : ¬ Own ρ1 σ b := fun z => by
    obtain ⟨o, ho⟩ := R.tr b (R.ownU (s1.own b z))
    rw [hb] at ho; cases ho
  have t2 : TopW F.K H2 _ d b := t1.pres (s2.pres R1) fun o h => s2.keep b o h no1
  obtain ⟨a, dx, gs, s', rfl, z1, z2, z3, R'⟩ := R2.setF (v := .ref b) es (show σ[i]? = _ from q2) (h2 b) ⟨rfl, .inr rfl, t2⟩ fun y hy => by
    have : y = b := by
      rcases List.mem_cons.mp (show y ∈ [b] from hy) with h | h
      · exact h
      · cases h
    subst this
    exact ⟨.inr (up_new R hb), fun z => no1 (s2.own y z), fun j e b q1 q2 hr => R2.brwNew R hb q1 q2 hr⟩
  exact ⟨a, C, dx, gs, rfl, z1, e ▸ c, e ▸ n, z2, k.nx _ _ _ _ R' z3⟩
/-- o.f = x, x an owned slot, which is moved there -/
def sFldM (C : Addr) (f : Str) (j : Nat) (fo : T3E) : T3S := fun E ρ => match ρ[j]? with
  | some (.own _) => fo ρ fun o ρ2 => match ρ2[j]? with
    | some (.own d) => match o with
      | .sl i => wo (ρ2.set j .emp)[i]? fun s => ∀ b, putO s C f (.bx b d) fun s' => E.nx ((ρ2.set j .emp).set i s')
      | _ => False
    | _ => False
  | _ => False
theorem simFldM {C : Addr} {f : Str} {j : Nat} {to : TE} {fo : T3E} (c : Cls K C) (n : NoAttr K C f) (ho : SimE K to fo) : SimS K (sFld K to (tVar j) f) (sFldM C f j fo) := by
  intro F U ρ σ H D3 D2 e R q k
  have q : (match ρ[j]? with | some (.own _) => fo ρ _ | _ => False) := q
  cases hj : ρ[j]? with
  | none => rw [hj] at q; exact q.elim
  | some sj =>
    rw [hj] at q
    cases sj <;> first | exact q.elim | skip
    rename_i d0
    have hi : j < σ.length := by rw [← R.len]; exact (List.getElem?_eq_some_iff.mp hj).1
    have hσ : σ[j]? = some σ[j] := List.getElem?_eq_getElem hi
    obtain ⟨b, eb, ub, _⟩ := R.slot j _ _ hj hσ
    have e3 : σ[j]? = some (some (.ref b)) := hσ.trans (by rw [eb])
    refine ⟨.ref b, e3, ho F U ρ σ H _ _ e R q fun o vo ρ2 H2 R2 s2 q2 h2 => ?_⟩
    have h2 : (match ρ2[j]? with | some (.own d) => _ | _ => False) := h2
    cases hj2 : ρ2[j]? with
    | none => rw [hj2] at h2; exact h2.elim
    | some sj2 =>
      rw [hj2] at h2
      cases sj2 <;> first | exact h2.elim | skip
      rename_i d
      obtain ⟨i, rfl⟩ : ∃ i, o = .sl i := by cases o <;> first | exact h2.elim | exact ⟨_, rfl⟩
      obtain ⟨s, es, h2⟩ := wo_out h2
      obtain ⟨b', eb', ub', tb⟩ := R2.slot j _ _ hj2 e3
      cases eb'
      have ob : Own ρ2 σ b := Own.root hj2 rfl e3
      have R3 : Rel F U (ρ2.set j .emp) σ H2 := by
        have := R2.setEmp (i := j) (o := some (.ref b)) hj2 rfl
        rwa [show σ.set j (some (.ref b)) = σ from by
          apply List.ext_getElem?
          intro m
          by_cases em : j = m
          · subst em; rw [List.getElem?_set_self hi, e3]
          · rw [List.getElem?_set_ne em]] at this
      have own3 : ∀ x, Own (ρ2.set j .emp) σ x → Own ρ2 σ x ∧ x ≠ b := fun x ⟨m, t, o, z1, z2, z3⟩ => by
        rcases set_get z1 with ⟨em, rfl, _⟩ | ⟨nm, z1⟩
        · exact absurd z3 (reg_noW rfl)
        · exact ⟨⟨m, t, o, z1, z2, z3⟩, fun ex => nm (R2.inj j m _ _ _ _ b hj2 z1 e3 z2 ⟨rfl, .inl rfl⟩ (ex ▸ z3))⟩
      obtain ⟨a, dx, gs, s', rfl, z1, z2, z3, R'⟩ := R3.setF (v := .ref b) es (show σ[i]? = _ from q2) (h2 b) ⟨rfl, ub', tb⟩ fun y hy => by
        have : y = b := by
          rcases List.mem_cons.mp (show y ∈ [b] from hy) with h | h
          · exact h
          · cases h
        subst this
        refine ⟨R2.new y ob, fun z => (own3 y z).2 rfl, fun m e' b' g1 g2 hr => ?_⟩
        rcases set_get g1 with ⟨em, e1, _⟩ | ⟨nm, g1⟩
        · cases e1
        · rcases R2.bor m e' _ g1 g2 with ⟨v, ev, r⟩ | ⟨b2, ev, _, no⟩
          · cases ev; exact r
          · cases ev; exact absurd ob (no y hr)
      exact ⟨a, C, dx, gs, rfl, z1, e ▸ c, e ▸ n, z2, k.nx _ _ _ _ R' z3⟩

/-! ### a new instance with boxes -/
/-- a fresh instance with boxes -/
def SimEB (K : PySem.W.Frag) (t2 : TE) (t3 : T3O') : Prop :=
  ∀ (F : Fr) (U : US) (ρ : En) (σ : St) (H : Hp) (Q3 : D → En → Prop) (Q2 : VK), F.K = K → Rel F U ρ σ H → t3 ρ Q3 →
    (∀ d a U' ρ' H', Rel F U' ρ' σ H' → U' a → TopB F.K H' U' d a → (∀ x, d.reg a x → F.H0 x = none ∧ ¬ Own ρ' σ x ∧ ∀ (j : Nat) (e : D) (b : Addr), ρ'[j]? = some (.brw e) → σ[j]? = some (some (.ref b)) → e.reg b x → Rp F.K H' U' e (.ref b)) → Q3 d ρ' → Q2 (.ref a) H') → t2 σ H Q2
theorem simOMakeB {C : Addr} {E : XK} {ms : List Md} {sp : S3} {u : TA} {g : T3A} (np : noPab ms = true) (h : SimA K u g) : SimEB K (tMake C (Lift K (.pab :: ms) sp) [] E u) (oMake C ms sp g) := by
  intro F U ρ σ H Q3 Q2 e R q k
  refine h F U ρ σ H _ _ e R q fun rs vs ρ1 H1 R1 s1 q1 ⟨ap, h1⟩ => ?_
  obtain ⟨ds, ed, h1⟩ := wo_out h1
  subst e
  obtain ⟨AO, own⟩ := args_ok R1 q1 ed ap
  intro x dx hx hd hne
  rw [List.append_nil]
  refine ⟨fun b => U b ∨ b = x, .obj C [] :: ds, _, _, make_args (rs := rs) R1 rfl AO own hx hd, h1, fun v H' U' d ds' A rp q => ?_, fun _ _ _ _ _ _ _ _ _ q => q.elim⟩
  obtain ⟨hnon, q⟩ := q
  refine ⟨isNon_rp hnon rp, ?_⟩
  cases ds' with
  | nil => exact q.elim
  | cons o ds'' =>
    have q : Q3 o (updE ms rs ds'' ρ1) := q
    obtain ⟨x', ex', ux, tx⟩ : SlotOk F.K H' U' (.pab o) (some (.ref x)) := A.par 0 .pab (.ref x) o rfl rfl rfl rfl
    cases ex'
    have A' := A.tail hx hd R1.tr fun a w => R1.ownU (own a w)
    obtain ⟨R2, _, k2⟩ := R1.after q1 ed ap A'
    have nw : ∀ y, o.reg x y → H1 y = none := fun y hy => by
      rcases hy with e | hy
      · rw [e]; exact hx
      · rcases A.reg y (wm_cons.mpr (.inl ⟨rfl, .inr hy⟩)) with z | z
        · rcases wm_cons.mp z with z | z
          · rw [reg_obj0 z]; exact hx
          · -- the boxes of the new instance are not what the arguments own
            exfalso
            obtain ⟨i, m, d, v, g1, g2, g3, g4⟩ := z
            have hi : i < ds''.length := by have := (List.getElem?_eq_some_iff.mp g3).1; rw [A'.len]; exact this
            have z' : Wm ms ds'' vs y := (A'.wm AO (sameB_no np) y).mp ⟨i, m, d, v, g1, g2, g3, g4⟩
            obtain ⟨i, m, d, v, g1, g2, g3, g4⟩ := z'
            have := A.inj 0 (i + 1) .pab m o d (.ref x) v y rfl (by simpa using g1) rfl (by simpa using g2) rfl (by simpa using g3) ⟨rfl, .inr hy⟩ g4
            omega
        · cases e : H1 y with
          | none => rfl
          | some u => rw [(old_ins hx hd e).2] at z; cases z
    refine k o x U' _ _ R2 ux tx (fun y hy => ⟨up_new R1 (nw y hy), fun z => ?_, fun j e b g1 g2 hr => R2.brwNew R1 (nw y hy) g1 g2 hr⟩) q
    -- nobody owns it: it would be new for the arguments
    have hl : ds''.length = rs.length := A'.len.trans q1.len.symm
    obtain ⟨j, s', o', g1, g2, g3⟩ := z
    obtain ⟨l1, l2, gg⟩ := argsD_out ed
    obtain ⟨a1, a2⟩ := apart_out ap
    by_cases hj : j ∈ parN ms rs
    · obtain ⟨i, m, p1, w, p2⟩ := parN_ex hj
      have hv : i < vs.length := by have := (List.getElem?_eq_some_iff.mp p2).1; rw [← q1.len]; exact this
      obtain ⟨r, er, rq⟩ := q1.at (List.getElem?_eq_getElem hv)
      rw [p2] at er; cases er
      have hd1 : i < ds.length := by have := q1.len; omega
      have hd2 : i < ds''.length := by rw [A'.len]; exact hv
      obtain ⟨j', s, ej, z1, z2, z3, kn⟩ := par_slot R1 w (gg i m _ _ p1 (List.getElem?_eq_getElem hd1) p2) rq
      cases ej
      rw [updE_yes a1 p1 w p2 (List.getElem?_eq_getElem hd2), z1] at g1
      have g1 : some (if s.isW = true then s.upd ds''[i] else s) = some s' := g1
      rw [if_pos kn.w] at g1
      cases g1
      rw [z3] at g2; cases g2
      have w' : Wm ms ds'' vs y := ⟨i, m, _, _, p1, List.getElem?_eq_getElem hd2, List.getElem?_eq_getElem hv, kn.reg.mpr g3⟩
      obtain ⟨u, hu⟩ := R1.tr y (R1.ownU (own y ((A'.wm AO (sameB_no np) y).mpr w')))
      rw [nw y hy] at hu; cases hu
    · rw [updE_no hj] at g1
      obtain ⟨u, hu⟩ := R1.tr y (R1.ownU ⟨j, s', o', g1, g2, g3⟩)
      rw [nw y hy] at hu; cases hu
/-- x = C(..), x owned, with boxes -/
def sAsgB (f : T3O') (i : Nat) : T3S := fun D ρ => f ρ fun d ρ1 => unl ρ1 i = true ∧ D.nx (ρ1.set i (.owb d))
theorem reg_owb {d : D} {a x : Addr} (h : (Sl.owb d).reg (some (.ref a)) x) : d.reg a x := by
  rcases h.2 with h | h
  · cases h; exact .inl rfl
  · exact .inr h
theorem simAsgB {t : TE} {f : T3O'} (h : SimEB K t f) (i : Nat) : SimS K (tAsg t (gName i)) (sAsgB f i) := fun F U ρ σ H D3 D2 e R q k =>
  h F U ρ σ H _ _ e R q fun d a U' ρ1 H1 R1 ua t1 hr h1 => by
    obtain ⟨s, z1, z2⟩ := unl_out h1.1
    exact k.nx _ _ _ H1 (R1.setNew (s' := .owb d) z1 z2 rfl ⟨a, rfl, ua, t1⟩ (fun x hx => .inr (hr x (reg_owb hx)).1) (fun x hx => (hr x (reg_owb hx)).2.1) fun j e' q1 b q2 ⟨x, hx, hy⟩ => (hr x (reg_owb hy)).2.2 j e' b q1 q2 hx) h1.2

/-- y = x, x owned: it is moved -/
def sMov (j i : Nat) : T3S := fun E ρ => match ρ[j]? with
  | some (.own d) => unl (ρ.set j .emp) i = true ∧ E.nx ((ρ.set j .emp).set i (.own d))
  | _ => False
theorem simMov (j i : Nat) : SimS K (tAsg (tVar j) (gName i)) (sMov j i) := by
  intro F U ρ σ H D3 D2 e R q k
  have q : (match ρ[j]? with | some (.own d) => unl (ρ.set j .emp) i = true ∧ D3.nx ((ρ.set j .emp).set i (.own d)) | _ => False) := q
  cases hj : ρ[j]? with
  | none => rw [hj] at q; exact q.elim
  | some sj =>
    rw [hj] at q
    cases sj <;> first | exact q.elim | skip
    rename_i d
    have hi : j < σ.length := by rw [← R.len]; exact (List.getElem?_eq_some_iff.mp hj).1
    have hσ : σ[j]? = some σ[j] := List.getElem?_eq_getElem hi
    obtain ⟨b, eb, ub, tb⟩ := R.slot j _ _ hj hσ
    have e3 : σ[j]? = some (some (.ref b)) := hσ.trans (by rw [eb])
    have ob : Own ρ σ b := Own.root hj rfl e3
    have R3 : Rel F U (ρ.set j .emp) σ H := by
      have := R.setEmp (i := j) (o := some (.ref b)) hj rfl
      rwa [show σ.set j (some (.ref b)) = σ from by
        apply List.ext_getElem?
        intro m
        by_cases em : j = m
        · subst em; rw [List.getElem?_set_self hi, e3]
        · rw [List.getElem?_set_ne em]] at this
    have own3 : ∀ x, Own (ρ.set j .emp) σ x → Own ρ σ x ∧ x ≠ b := fun x ⟨m, t, o, z1, z2, z3⟩ => by
      rcases set_get z1 with ⟨em, rfl, _⟩ | ⟨nm, z1⟩
      · exact absurd z3 (reg_noW rfl)
      · exact ⟨⟨m, t, o, z1, z2, z3⟩, fun ex => nm (R.inj j m _ _ _ _ b hj z1 e3 z2 ⟨rfl, .inl rfl⟩ (ex ▸ z3))⟩
    obtain ⟨s, z1, z2⟩ := unl_out q.1
    refine ⟨.ref b, e3, k.nx _ _ _ H (R3.setNew (s' := .own d) z1 z2 rfl ⟨b, rfl, ub, tb⟩ (fun x hx => by rw [reg_own hx]; exact R.new b ob) (fun x hx z => by rw [reg_own hx] at z; exact (own3 b z).2 rfl) fun m e' g1 b' g2 ⟨x, hx, hy⟩ => ?_) q.2⟩
    have ex := reg_own hy
    subst ex
    rcases set_get g1 with ⟨em, e1, _⟩ | ⟨nm, g1⟩
    · cases e1
    · rcases R.bor m e' _ g1 g2 with ⟨v, ev, r⟩ | ⟨b2, ev, _, no⟩
      · cases ev; exact r
      · cases ev; exact absurd ob (no x hx)

/-! ### calls that may make boxes, as statements -/
theorem callG {ms : List Md} {sp : S3} {rs : List Rs} {vs : List V} {ds : List D} {ρ1 : En} {H1 : Hp} {Q3 : En → Prop} {Q2 : VK} (R1 : Rel F U ρ1 σ H1) (q1 : RVs F U σ H1 rs vs) (ap : apart ms rs = true) (ed : argsD ms rs ρ1 = some ds)
    (h1 : sp ds (fun _ ds' => Q3 (updE ms rs ds' ρ1)) (fun _ ds' => Q3 (updE ms rs ds' ρ1))) (k : ∀ v U' ρ' H', Rel F U' ρ' σ H' → Q3 ρ' → Q2 v H') (E : XK) : Lift F.K ms sp vs H1 Q2 E := by
  obtain ⟨AO, own⟩ := args_ok R1 q1 ed ap
  exact ⟨U, ds, _, _, AO, h1, fun v H' U' d ds' A rp q => k _ _ _ _ (R1.after q1 ed ap A).1 q, fun a H' U' d ds' A t u nw q => k _ _ _ _ (R1.after q1 ed ap A).1 q⟩
/-- o.m(..), a statement -/
def sMeth (C : Addr) (m : Str) (ms : List Md) (sp : S3) (fo : T3E) (g : T3A) : T3S := fun E ρ => fo ρ fun r ρ1 => wd r ρ1 fun d => match d with
  | .obj C' fs => (C' = C ∧ fs.lookup m = none) ∧ g ρ1 fun rs ρ2 => apart ms (r :: rs) = true ∧ wo (argsD ms (r :: rs) ρ2) fun ds => sp ds (fun _ ds' => E.nx (updE ms (r :: rs) ds' ρ2)) (fun _ ds' => E.nx (updE ms (r :: rs) ds' ρ2))
  | _ => False
theorem simSMeth {C : Addr} {m : Str} {E : XK} {ms : List Md} {sp : S3} {t : TE} {u : TA} {fo : T3E} {g : T3A} (ho : SimE K t fo) (h : SimA K u g) : SimS K (tDrop (tMeth C m (Lift K ms sp) [] E t u)) (sMeth C m ms sp fo g) := by
  intro F U ρ σ H D3 D2 e R q k
  refine ho F U ρ σ H _ _ e R q fun r v ρ0 H0 R0 s0 q0 h0 => ?_
  obtain ⟨d, e1, h0⟩ := wd_out h0
  cases d <;> first | exact h0.elim | skip
  rename_i C' fs
  obtain ⟨⟨ec, hm⟩, h2⟩ := h0
  obtain ⟨a, dx, gs, rfl, z1, z2⟩ := q0.obj R0 e1
  refine ⟨a, dx, gs, rfl, ec ▸ z1, z2.no hm, ?_⟩
  refine h F U ρ0 σ H0 _ _ e R0 h2 fun rs vs ρ1 H1 R1 s1 q1 ⟨ap, h1⟩ => ?_
  obtain ⟨ds, ed, h1⟩ := wo_out h1
  subst e
  have q1 : RVs F U σ H1 (r :: rs) (.ref a :: vs) := .cons (q0.pres (s1.pres R0)) q1
  rw [List.append_nil]
  exact callG R1 q1 ap ed h1 (fun v U' ρ' H' R' q => k.nx _ _ _ _ R' q) E
/-- o.m(..) that changes boxes and makes none -/
def eMethB (C : Addr) (m : Str) (ms : List Md) (sp : S3) (fo : T3E) (g : T3A) : T3E := fun ρ Q => fo ρ fun r ρ1 => wd r ρ1 fun d => match d with
  | .obj C' fs => (C' = C ∧ fs.lookup m = none) ∧ g ρ1 fun rs ρ2 => apart ms (r :: rs) = true ∧ wo (argsD ms (r :: rs) ρ2) fun ds => sp ds (fun d ds' => sameB ms ds ds' ∧ Q (.val d) (updE ms (r :: rs) ds' ρ2)) (fun d ds' => sameB ms ds ds' ∧ Q (.val d) (updE ms (r :: rs) ds' ρ2))
  | _ => False
theorem simMethB {C : Addr} {m : Str} {E : XK} {ms : List Md} {sp : S3} {t : TE} {u : TA} {fo : T3E} {g : T3A} (ho : SimE K t fo) (h : SimA K u g) : SimE K (tMeth C m (Lift K ms sp) [] E t u) (eMethB C m ms sp fo g) := by
  intro F U ρ σ H Q3 Q2 e R q k
  refine ho F U ρ σ H _ _ e R q fun r v ρ0 H0 R0 s0 q0 h0 => ?_
  obtain ⟨d, e1, h0⟩ := wd_out h0
  cases d <;> first | exact h0.elim | skip
  rename_i C' fs
  obtain ⟨⟨ec, hm⟩, h2⟩ := h0
  obtain ⟨a, dx, gs, rfl, z1, z2⟩ := q0.obj R0 e1
  refine ⟨a, dx, gs, rfl, ec ▸ z1, z2.no hm, ?_⟩
  refine h F U ρ0 σ H0 _ _ e R0 h2 fun rs vs ρ1 H1 R1 s1 q1 ⟨ap, h1⟩ => ?_
  obtain ⟨ds, ed, h1⟩ := wo_out h1
  subst e
  have q1 : RVs F U σ H1 (r :: rs) (.ref a :: vs) := .cons (q0.pres (s1.pres R0)) q1
  have s1 := s0.trans s1
  rw [List.append_nil]
  exact callE R s1 R1 q1 ap ed h1 k E
end
end L3

set_option Elab.async false
set_option linter.all false
set_option maxRecDepth 100000
namespace L3
open PySem PySem.Spec L2 PyProof.Rows
/-! ### dicts whose keys are nested tuples: over the heap -/
mutual
/-- the value is this key -/
def NkV (K : PySem.W.Frag) (H : Hp) : NestedKey → V → Prop
  | .none, v => v = .non
  | .num i, v => v = .int i ∨ ∃ b : Bool, v = .bl b ∧ i = if b = true then 1 else 0
  | .text x, v => v = .str x
  | .tup ks, v => ∃ a vs, v = .ref a ∧ SqT K H a vs ∧ NkVs K H ks vs
def NkVs (K : PySem.W.Frag) (H : Hp) : List NestedKey → List V → Prop
  | [], vs => vs = []
  | k :: ks, vs => ∃ v r, vs = v :: r ∧ NkV K H k v ∧ NkVs K H ks r
end
mutual
theorem Rp.nk {K : PySem.W.Frag} {H : Hp} {U : US} : ∀ (d : D) (v : V) (k : NestedKey), d.nk = some k → Rp K H U d v → NkV K H k v
  | .non, v, k, e, h => by simp only [D.nk] at e; cases e; simpa only [Rp, NkV] using h
  | .bl b, v, k, e, h => by simp only [D.nk] at e; cases e; simp only [Rp] at h; exact .inr ⟨b, h, rfl⟩
  | .int i, v, k, e, h => by simp only [D.nk] at e; cases e; simp only [Rp] at h; exact .inl h
  | .str s, v, k, e, h => by simp only [D.nk] at e; cases e; simpa only [Rp, NkV] using h
  | .tup ds, v, k, e, h => by
    simp only [D.nk] at e
    obtain ⟨ks, e1, rfl⟩ := Option.map_eq_some_iff.mp e
    simp only [Rp] at h
    obtain ⟨a, vs, rfl, h1, h2⟩ := h
    exact ⟨a, vs, rfl, h1.sq, RpAll.nk ds vs ks e1 h2⟩
  | .lst _, _, _, e, _ => by simp [D.nk] at e
  | .dic _, _, _, e, _ => by simp [D.nk] at e
  | .dit _, _, _, e, _ => by simp [D.nk] at e
  | .obj _ _, _, _, e, _ => by simp [D.nk] at e
  | .ty _, _, _, e, _ => by simp [D.nk] at e
  | .cls _, _, _, e, _ => by simp [D.nk] at e
  | .scr _, _, _, e, _ => by simp [D.nk] at e
  | .bx _ _, _, _, e, _ => by simp [D.nk] at e
  | .din _ _, _, _, e, _ => by simp [D.nk] at e
theorem RpAll.nk {K : PySem.W.Frag} {H : Hp} {U : US} : ∀ (ds : List D) (vs : List V) (ks : List NestedKey), D.nks ds = some ks → RpAll K H U ds vs → NkVs K H ks vs
  | [], _, ks, e, h => by simp only [D.nks] at e; cases e; simpa only [RpAll, NkVs] using h
  | d :: ds, _, ks, e, h => by
    simp only [D.nks] at e
    cases e1 : d.nk with
    | none => simp [e1] at e
    | some k =>
      cases e2 : D.nks ds with
      | none => simp [e1, e2] at e
      | some ks' =>
        simp only [e1, e2] at e
        cases e
        simp only [RpAll] at h
        obtain ⟨v, r, rfl, h1, h2⟩ := h
        exact ⟨v, r, rfl, Rp.nk d v k e1 h1, RpAll.nk ds r ks' e2 h2⟩
end
section
variable {X : Cx} {pins : List (Addr × Obj)} {σ : L2.St} {H : Hp} {s : Shared} {a b : Addr} {v : V} {u r : Value} {A : Around} {E : Value → Shared → Prop} {xs : List (NestedKey × Addr × Value)} {k : NestedKey}
mutual
theorem NkV.is (I : Inv X pins σ H s) : ∀ (k : NestedKey) (v : V) (u : Value), NkV X.K H k v → RelV v u → NestedIs s.heap k u
  | .none, v, u, h, r => by simp only [NkV] at h; subst h; cases r; exact .none
  | .num i, v, u, h, r => by
    simp only [NkV] at h
    rcases h with rfl | ⟨b, rfl, e⟩
    · obtain ⟨t, rfl⟩ := r; exact .int _ _
    · cases r; exact .bool e
  | .text x, v, u, h, r => by simp only [NkV] at h; subst h; obtain ⟨t, rfl⟩ := r; exact .text _ _
  | .tup ks, v, u, h, r => by
    simp only [NkV] at h
    obtain ⟨a, vs, rfl, h1, h2⟩ := h
    cases r
    obtain ⟨its, rv, ⟨o, e1, e2, n, e3⟩, hz⟩ := I.tuple h1
    exact .tup e1 e2 e3 (by simpa using NkVs.is I ks vs its h2 rv)
theorem NkVs.is (I : Inv X pins σ H s) : ∀ (ks : List NestedKey) (vs : List V) (us : List Value), NkVs X.K H ks vs → Vals vs us → NestedAll s.heap ks us
  | [], vs, us, h, r => by simp only [NkVs] at h; subst h; cases r; exact .nil
  | k :: ks, vs, us, h, r => by
    simp only [NkVs] at h
    obtain ⟨v, w, rfl, h1, h2⟩ := h
    cases r with
    | cons r1 r2 => exact .cons (NkV.is I k v _ h1 r1) (NkVs.is I ks w _ h2 r2)
end
/-- the entries' keys are keys -/
def NkKeys (K : PySem.W.Frag) (H : Hp) (xs : List (NestedKey × Addr × Value)) : Prop := ∀ x ∈ xs, NkV K H x.1 (.ref x.2.1) ∧ x.1.depth ≤ 8
theorem RpN.keys {K : PySem.W.Frag} {U : US} : ∀ {ds : List (D × D)} {xs : List (NestedKey × Addr × Value)}, RpN K H U ds xs → NkKeys K H xs
  | [], _, h => by simp only [RpN] at h; subst h; intro x hx; cases hx
  | (dk, dv) :: ds, _, h => by
    simp only [RpN] at h
    obtain ⟨k, b, u, v, r, rfl, h1, h2, h3, h4, h5, h6⟩ := h
    intro x hx
    rcases List.mem_cons.mp hx with rfl | hx
    · exact ⟨Rp.nk dk _ k h1 h3, h2⟩
    · exact RpN.keys h6 x hx
theorem nested_room (hu : A.units + 9 < cLine) : (nestedKind X.prog X.w).room A.in1 := by
  show A.in1.units + 8 < cLine
  have : A.in1.units ≤ A.units + 1 := by first | exact Nat.le_refl _ | (simp [Around.in1, Around.units]; done) | (show _ ≤ _; simp only [Around.in1]; omega)
  omega
theorem dn_of (I : Inv X pins σ H s) (h : Rd H a (.ext (DNat X.w a xs))) (hk : NkKeys X.K H xs) : xs.length ≤ sizeLine ∧ (a == sysModules) = false ∧ s.heap.DictOfH (nestedKind X.prog X.w) a xs := by
  obtain ⟨⟨o, es, ep, h1, h2, h3, h4, h5, h6, h7⟩, _⟩ := h.ok I.hok
  exact ⟨h6, h7, o, es, ep, h1, h2, h3, h4, fun x hx => ⟨(hk x hx).1.is I _ _ _ rfl, (hk x hx).2⟩, h5⟩
theorem dn_ok (I : Inv X pins σ H s) (h : H a = some (.ext (DNat X.w a xs))) : DNat X.w a xs s.heap := (I.hok a _ h).1
theorem dn_objOk {P : Program} {w : World} {H' : Hp} {h' : Heap} (h : DNat w a xs h') : ObjOk P w H' h' a (.ext (DNat w a xs)) :=
  ⟨h, let ⟨o, _, _, e, _⟩ := h; ⟨o, e⟩, fun h1 h2 ⟨o, es, ep, e, r⟩ k => ⟨o, es, ep, k o e, r⟩⟩
theorem dn_typeIs (I : Inv X pins σ H s) (h : Rd H a (.ext (DNat X.w a xs))) : s.TypeIs (.ref a) "dict" ∧ (∀ b, Value.ref a = .ref b → ∃ ob, s.heap.get? b = some ob ∧ ob.dict = none) ∧ (a == sysModules) = false := by
  obtain ⟨⟨o, es, ep, h1, h2, h3, h4, h5, h6, h7⟩, _⟩ := h.ok I.hok
  exact ⟨⟨o, h1, h2.1⟩, fun b e => by cases e; exact ⟨o, h1, h2.2.1⟩, h7⟩
theorem dn_getItem {Q : Value → Shared → Prop} {p : Addr × Value} (hu : A.units + 9 < cLine) (I : Inv X pins σ H s) (h : Rd H a (.ext (DNat X.w a xs))) (hk : NkKeys X.K H xs) (hb : NkV X.K H k (.ref b)) (hd : k.depth ≤ 8) (hp : atKey xs k = some p)
    (q : ∀ s', Inv X pins σ H s' → Q p.2 s') : wpAny (model X.prog X.w) A (getItem (.ref a) (.ref b)) Q E s := by
  obtain ⟨_, _, dd⟩ := dn_of I h hk
  exact wpAny_getItem_heap (nested_room (X := X) hu) ⟨hb.is I _ _ _ rfl, hd⟩ dd hp (q _ (I.tok _))
theorem dn_in {Q : Value → Shared → Prop} (hu : A.units + 9 < cLine) (I : Inv X pins σ H s) (h : Rd H a (.ext (DNat X.w a xs))) (hk : NkKeys X.K H xs) (hb : NkV X.K H k (.ref b)) (hd : k.depth ≤ 8)
    (q : ∀ s', Inv X pins σ H s' → Q (.bool (atKey xs k).isSome) s') : wpAny (model X.prog X.w) A (compareOp .In (.ref b) (.ref a)) Q E s := by
  obtain ⟨_, h7, dd⟩ := dn_of I h hk
  exact wpAny_in_heap (nested_room (X := X) hu) ⟨hb.is I _ _ _ rfl, hd⟩ h7 dd (q _ (I.tok _))
theorem dn_notIn {Q : Value → Shared → Prop} (hu : A.units + 9 < cLine) (I : Inv X pins σ H s) (h : Rd H a (.ext (DNat X.w a xs))) (hk : NkKeys X.K H xs) (hb : NkV X.K H k (.ref b)) (hd : k.depth ≤ 8)
    (q : ∀ s', Inv X pins σ H s' → Q (.bool (!(atKey xs k).isSome)) s') : wpAny (model X.prog X.w) A (compareOp .NotIn (.ref b) (.ref a)) Q E s := by
  obtain ⟨_, h7, dd⟩ := dn_of I h hk
  exact wpAny_notIn_heap (nested_room (X := X) hu) ⟨hb.is I _ _ _ rfl, hd⟩ h7 dd (q _ (I.tok _))
theorem storedH_len {v : Value} : (storedH xs k b v).length ≤ xs.length + 1 := by
  unfold storedH
  split
  · rw [List.length_map]; omega
  · rw [List.length_append]; exact Nat.le_refl _
theorem dn_setItem {Q : Unit → Shared → Prop} (hu : A.units + 9 < cLine) (I : Inv X pins σ H s) (h : H a = some (.ext (DNat X.w a xs))) (hk : NkKeys X.K H xs) (hb : NkV X.K H k (.ref b)) (hd : k.depth ≤ 8) (hl : xs.length < sizeLine)
    (q : ∀ s', Inv X pins σ (upd H a (.ext (DNat X.w a (storedH xs k b r)))) s' → Q () s') : wpAny (model X.prog X.w) A (setItem (.ref a) (.ref b) r) Q E s := by
  obtain ⟨hz, h7, dd⟩ := dn_of I (.inl h) hk
  refine wpAny_setItem_heap (hsz := hz) (nested_room (X := X) hu) ⟨hb.is I _ _ _ rfl, hd⟩ dd fun h' dd' hs => q _ ?_
  obtain ⟨o, es, ep, e1, e2, e3, e4, e5, e6⟩ := dd'
  have e4 : es.toList = (storedH xs k b r).map (fun x => (⟨x.1.hash X.w, .ref x.2.1, x.2.2⟩ : DictEntry)) := e4
  exact d_write I (by rw [h]; exact True.intro) hs ⟨o, e1⟩ (dn_objOk ⟨o, es, ep, e1, e2, e3, e4, e6, Nat.le_trans storedH_len hl, h7⟩)
theorem dn_get2 {Q : Value → Shared → Prop} (hu : A.units + 9 < cLine) (I : Inv X pins σ H s) (h : Rd H a (.ext (DNat X.w a xs))) (hk : NkKeys X.K H xs) (hb : NkV X.K H k (.ref b)) (hd : k.depth ≤ 8)
    (q : ∀ s', Inv X pins σ H s' → Q (((atKey xs k).map (·.2)).getD r) s') : wpAny (model X.prog X.w) A (call (.builtin "dict.get") [.ref a, .ref b, r]) Q E s := by
  obtain ⟨_, h7, dd⟩ := dn_of I h hk
  exact call_meetsIn PySem.F.slot_dict_get dd.typeIs PySem.F.entry_dict_get (PySem.F.args_dict_get_3 _ _ _) (meetsH_dict_get_default (nestedKind X.prog X.w) a b h7 r) ⟨nested_room (X := X) hu, k, xs, ⟨hb.is I _ _ _ rfl, hd⟩, dd, q _ (I.tok _)⟩
theorem dn_empty {P : Program} {w : World} {H : Hp} (h : Heap) (hb : sysModules < h.objs.size) : ObjOk P w H (h.push { cls := .type "dict", data := .dict #[] }) h.objs.size (.ext (DNat w h.objs.size [])) :=
  dn_objOk ⟨_, #[], 0, Heap.get?_push_size _ rfl, ⟨rfl, rfl, rfl⟩, rfl, rfl, List.nodup_nil, Nat.zero_le _, beq_eq_false_iff_ne.mpr (Ne.symm (Nat.ne_of_lt hb))⟩
end

/-! ### readings and rules -/
def tDNewN (w : World) : TE := fun _ H Q => ∀ p, H p = none → Q (.ref p) (upd H p (.ext (DNat w p [])))
/-- a dict and a key -/
def DNk (K : PySem.W.Frag) (w : World) (H : Hp) (a b : Addr) (xs : List (NestedKey × Addr × Value)) (k : NestedKey) : Prop := Rd H a (.ext (DNat w a xs)) ∧ NkKeys K H xs ∧ NkV K H k (.ref b) ∧ k.depth ≤ 8
def tNGet (K : PySem.W.Frag) (w : World) (td ty : TE) : TE := fun σ H Q => td σ H fun x H1 => ty σ H1 fun y H2 => ∃ a b xs k p v, x = .ref a ∧ y = .ref b ∧ DNk K w H2 a b xs k ∧ atKey xs k = some p ∧ RelV v p.2 ∧ Q v H2
def tNIn (K : PySem.W.Frag) (w : World) (neg : Bool) (ty td : TE) : TE := fun σ H Q => ty σ H fun y H1 => td σ H1 fun x H2 => ∃ a b xs k, x = .ref a ∧ y = .ref b ∧ DNk K w H2 a b xs k ∧ Q (.bl (if neg then !(atKey xs k).isSome else (atKey xs k).isSome)) H2
def sNPut (K : PySem.W.Frag) (w : World) (td ty tv : TE) : TS := fun D σ H => tv σ H fun v H1 => td σ H1 fun x H2 => ty σ H2 fun y H3 => ∃ a b xs k, x = .ref a ∧ y = .ref b ∧ H3 a = some (.ext (DNat w a xs)) ∧ DNk K w H3 a b xs k ∧ xs.length < sizeLine ∧ ∀ u, RelV v u → D.nx σ (upd H3 a (.ext (DNat w a (storedH xs k b u))))
def tNGet2 (K : PySem.W.Frag) (w : World) (td ty tx : TE) : TE := fun σ H Q => td σ H fun x H1 => ∃ a, x = .ref a ∧ (∃ xs, Rd H1 a (.ext (DNat w a xs))) ∧ ty σ H1 fun y H2 => tx σ H2 fun z H3 => ∃ b xs k, y = .ref b ∧ DNk K w H3 a b xs k ∧
  (atKey xs k = none → Q z H3) ∧ ∀ p, atKey xs k = some p → ∃ v, RelV v p.2 ∧ Q v H3
section
variable {X : Cx} {o i e f value : Expr} {pos pos' apos cpos : Pos} {td ty tv tx : TE}
theorem pe_dnewN : PE X (.Dict [] [] pos) (tDNewN X.w) := ⟨fun pins s σ H Q I h =>
  wpAny_Dict_empty ⟨.ref s.heap.objs.size, _, I.laid (a := s.heap.objs.size) (o := .ext (DNat X.w s.heap.objs.size [])) (t' := s.toks) (fun _ _ q => Heap.get?_push_of_some _ q) (Nat.le_refl _) (dn_empty s.heap I.big), rfl, h _ (I.hok.fresh (Nat.le_refl _))⟩⟩
theorem pe_nget (hu : X.A.units + 9 < cLine) (ho : PE X o td) (hi : PE X i ty) (hs : NoSl i) : PE X (.Subscript o i pos) (tNGet X.K X.w td ty) := by
  refine ⟨fun pins s σ H Q I h => ?_⟩
  refine subD_of PySem.F.slot_dict_getitem.lookup hs (thn (ho.run pins s σ H _ I h) fun u s1 ⟨x, H1, I1, rx, q1⟩ => thn (hi.run pins s1 σ H1 _ I1 q1) fun iv s2 ⟨y, H2, I2, ry, a, b, xs, k, p, v, ex, ey, ⟨d1, d2, d3, d4⟩, hp, rv, q2⟩ => ?_)
  subst ex ey
  obtain rfl : u = Value.ref a := rx
  obtain rfl : iv = Value.ref b := ry
  exact ⟨(dn_typeIs I2 d1).1, dn_getItem hu I2 d1 d2 d3 d4 hp fun s3 I3 => ⟨v, H2, I3, rv, q2⟩⟩
theorem pc_nin (hu : X.A.units + 9 < cLine) (hi : PE X i ty) (ho : PE X o td) : PC X .In i o (tNIn X.K X.w false ty td) := by
  refine ⟨fun pins s σ H Q I h => ?_⟩
  refine thn (hi.run pins s σ H _ I h) fun iv s1 ⟨y, H1, I1, ry, q1⟩ => thn (ho.run pins s1 σ H1 _ I1 q1) fun u s2 ⟨x, H2, I2, rx, a, b, xs, k, ex, ey, ⟨d1, d2, d3, d4⟩, q2⟩ => ?_
  subst ex ey
  obtain rfl : u = Value.ref a := rx
  obtain rfl : iv = Value.ref b := ry
  exact dn_in hu I2 d1 d2 d3 d4 fun s3 I3 => ⟨.bl (atKey xs k).isSome, H2, I3, rfl, q2⟩
theorem pc_nnotin (hu : X.A.units + 9 < cLine) (hi : PE X i ty) (ho : PE X o td) : PC X .NotIn i o (tNIn X.K X.w true ty td) := by
  refine ⟨fun pins s σ H Q I h => ?_⟩
  refine thn (hi.run pins s σ H _ I h) fun iv s1 ⟨y, H1, I1, ry, q1⟩ => thn (ho.run pins s1 σ H1 _ I1 q1) fun u s2 ⟨x, H2, I2, rx, a, b, xs, k, ex, ey, ⟨d1, d2, d3, d4⟩, q2⟩ => ?_
  subst ex ey
  obtain rfl : u = Value.ref a := rx
  obtain rfl : iv = Value.ref b := ry
  exact dn_notIn hu I2 d1 d2 d3 d4 fun s3 I3 => ⟨.bl (!(atKey xs k).isSome), H2, I3, rfl, q2⟩
theorem ps_nput (hu : X.A.units + 9 < cLine) (ho : PE X o td) (hi : PE X i ty) (hv : PE X value tv) (hs : swapsWith value (some (.Subscript o i pos')) pos.line X.env = pure false) :
    PS X (.Assign [.Subscript o i pos'] value pos) (sNPut X.K X.w td ty tv) := by
  refine ⟨fun pins s σ H D I h => ?_⟩
  refine wpAny_Assign_Subscript (thn (hv.run pins s σ H _ I h) fun r s1 ⟨v, H1, I1, rv, q1⟩ => thn (ho.run pins s1 σ H1 _ I1 q1) fun u s2 ⟨x, H2, I2, rx, q2⟩ => thn (hi.run pins s2 σ H2 _ I2 q2) fun iv s3 ⟨y, H3, I3, ry, a, b, xs, k, ex, ey, eh, ⟨d1, d2, d3, d4⟩, hl, q3⟩ => ?_) hs
  subst ex ey
  obtain rfl : u = Value.ref a := rx
  obtain rfl : iv = Value.ref b := ry
  exact dn_setItem hu I3 eh d2 d3 d4 hl fun s4 I4 => ⟨σ, _, I4, q3 r rv⟩
theorem pe_nget2 (hu : X.A.units + 9 < cLine) (ho : PE X o td) (he : PE X e ty) (hf : PE X f tx) (m : M2 X o "get" apos e f cpos) : PE X (.Call (.Attribute o "get" apos) [e, f] [] cpos) (tNGet2 X.K X.w td ty tx) := by
  refine ⟨fun pins s σ H Q I h => ?_⟩
  refine wpAny_Call_method m.base m.few m.line PySem.F.plainAttrs_dict PySem.F.slot_dict_get PySem.F.type_dict_get (thn (ho.run pins s σ H _ I h) fun u s1 ⟨x, H1, I1, rx, a, ex, ⟨xs0, d⟩, q1⟩ => ?_)
  subst ex
  obtain rfl : u = Value.ref a := rx
  obtain ⟨t1, t2, _⟩ := dn_typeIs I1 d
  refine ⟨t1, t2, ?_⟩
  rw [m.trees]
  refine Calls.callWith_builtin rfl (Calls.evalArgs_plain (Calls.spliced_cons (thn (he.run pins s1 σ H1 _ I1 q1) fun iv s2 ⟨y, H2, I2, ry, q2⟩ =>
    Calls.spliced_cons (thn (hf.run pins s2 σ H2 _ I2 q2) fun fv s3 ⟨z, H3, I3, rz, b, xs, k, ey, ⟨d1, d2, d3, d4⟩, q3, q4⟩ => Calls.spliced_nil ?_))))
  subst ey
  obtain rfl : iv = Value.ref b := ry
  refine dn_get2 hu I3 d1 d2 d3 d4 fun s4 I4 => ?_
  cases hp : atKey xs k with
  | none => exact ⟨z, H3, I4, rz, q3 hp⟩
  | some p => obtain ⟨v, rv, q⟩ := q4 p hp; exact ⟨v, H3, I4, rv, q⟩
end

/-! ### as data -/
def getN (kvs : List (D × D)) (k : NestedKey) : Option D := (kvs.find? fun p => decide (p.1.nk = some k)).map (·.2)
def putN (kvs : List (D × D)) (dk : D) (k : NestedKey) (d : D) : List (D × D) :=
  if (getN kvs k).isSome = true then kvs.map (fun p => if p.1.nk = some k then (p.1, d) else p) else kvs ++ [(dk, d)]
section
variable {F : Fr} {U U2 : US} {ρ ρ' ρ2 : En} {σ σ2 : L2.St} {H H' H2 : Hp} {K : PySem.W.Frag}
theorem RpN.len : ∀ {ds : List (D × D)} {xs : List (NestedKey × Addr × Value)}, RpN K H U ds xs → xs.length = ds.length
  | [], _, h => by simp only [RpN] at h; subst h; rfl
  | (dk, dv) :: ds, _, h => by
    simp only [RpN] at h
    obtain ⟨k, b, u, v, r, rfl, _, _, _, _, _, h6⟩ := h
    rw [List.length_cons, List.length_cons, RpN.len h6]
theorem RpN.get {k : NestedKey} : ∀ {ds : List (D × D)} {xs : List (NestedKey × Addr × Value)}, RpN K H U ds xs → (getN ds k = none ∧ atKey xs k = none) ∨ ∃ d p v, getN ds k = some d ∧ atKey xs k = some p ∧ RelV v p.2 ∧ Rp K H U d v
  | [], _, h => by simp only [RpN] at h; subst h; exact .inl ⟨rfl, rfl⟩
  | (dk, dv) :: ds, _, h => by
    simp only [RpN] at h
    obtain ⟨k', b, u, v, r, rfl, h1, h2, h3, h4, h5, h6⟩ := h
    by_cases e : k' = k
    · subst e
      exact .inr ⟨dv, (b, u), v, by simp [getN, h1], by simp [atKey], h5, h4⟩
    · have e1 : getN ((dk, dv) :: ds) k = getN ds k := by
        unfold getN
        rw [List.find?_cons_of_neg (by rw [h1]; simpa using e)]
      have e2 : atKey ((k', b, u) :: r) k = atKey r k := by
        unfold atKey
        rw [List.find?_cons_of_neg (by simpa using e)]
      rw [e1, e2]
      exact RpN.get h6
theorem RpN.map {k : NestedKey} {d : D} {v : V} {u : Value} (rd : Rp K H U d v) (ru : RelV v u) : ∀ {ds : List (D × D)} {xs : List (NestedKey × Addr × Value)}, RpN K H U ds xs → RpN K H U (ds.map fun p => if p.1.nk = some k then (p.1, d) else p) (xs.map (putAt k u))
  | [], _, h => by simp only [RpN] at h; subst h; simp [RpN]
  | (dk, dv) :: ds, _, h => by
    simp only [RpN] at h
    obtain ⟨k', b, u', v', r, rfl, h1, h2, h3, h4, h5, h6⟩ := h
    rw [List.map_cons, List.map_cons]
    by_cases e : k' = k
    · have e1 : (if (dk, dv).1.nk = some k then ((dk, dv).1, d) else (dk, dv)) = (dk, d) := by rw [if_pos (by rw [← e]; exact h1)]
      have e2 : putAt k u (k', b, u') = (k', b, u) := by unfold putAt; rw [if_pos e]
      rw [e1, e2]
      simp only [RpN]
      exact ⟨k', b, u, v, _, rfl, h1, h2, h3, rd, ru, RpN.map rd ru h6⟩
    · have e1 : (if (dk, dv).1.nk = some k then ((dk, dv).1, d) else (dk, dv)) = (dk, dv) := by
        rw [if_neg]
        intro z
        have z : dk.nk = some k := z
        rw [h1] at z; cases z; exact e rfl
      have e2 : putAt k u (k', b, u') = (k', b, u') := by unfold putAt; rw [if_neg e]
      rw [e1, e2]
      simp only [RpN]
      exact ⟨k', b, u', v', _, rfl, h1, h2, h3, h4, h5, RpN.map rd ru h6⟩
theorem RpN.snoc {k : NestedKey} {dk d : D} {b : Addr} {v : V} {u : Value} (hk : dk.nk = some k) (hd : k.depth ≤ 8) (rk : Rp K H U dk (.ref b)) (rd : Rp K H U d v) (ru : RelV v u) : ∀ {ds : List (D × D)} {xs : List (NestedKey × Addr × Value)}, RpN K H U ds xs → RpN K H U (ds ++ [(dk, d)]) (xs ++ [(k, b, u)])
  | [], _, h => by simp only [RpN] at h; subst h; simp only [List.nil_append, RpN]; exact ⟨k, b, u, v, [], rfl, hk, hd, rk, rd, ru, rfl⟩
  | (dk', dv) :: ds, _, h => by
    simp only [RpN] at h
    obtain ⟨k', b', u', v', r, rfl, h1, h2, h3, h4, h5, h6⟩ := h
    simp only [List.cons_append, RpN]
    exact ⟨k', b', u', v', _, rfl, h1, h2, h3, h4, h5, RpN.snoc hk hd rk rd ru h6⟩
theorem RpN.put {k : NestedKey} {dk d : D} {b : Addr} {v : V} {u : Value} (hk : dk.nk = some k) (hd : k.depth ≤ 8) (rk : Rp K H U dk (.ref b)) (rd : Rp K H U d v) (ru : RelV v u) {ds : List (D × D)} {xs : List (NestedKey × Addr × Value)} (h : RpN K H U ds xs) : RpN K H U (putN ds dk k d) (storedH xs k b u) := by
  unfold putN storedH
  rcases h.get (k := k) with ⟨e1, e2⟩ | ⟨d', p, v', e1, e2, _⟩
  · rw [e1, e2]
    exact RpN.snoc hk hd rk rd ru h
  · rw [e1, e2]
    exact RpN.map rd ru h
theorem RV.din (R : Rel F U ρ σ H) {r : Rs} {v : V} {w : World} {ds : List (D × D)} (h : RV F U σ H r v) (e : r.dat ρ = some (.din w ds)) : ∃ a xs, v = .ref a ∧ Rd H a (.ext (DNat w a xs)) ∧ RpN F.K H U ds xs := by
  rcases h.get R e with q | ⟨a, e, xs, q1, q2⟩
  · simp only [Rp] at q
    obtain ⟨a, xs, e, h1, _, h2⟩ := q
    exact ⟨a, xs, e, h1, h2⟩
  · exact ⟨a, xs, e, q1, q2⟩
/-- a tuple as a key -/
def wkey (y : Rs) (ρ : En) (k : D → NestedKey → Prop) : Prop := wd y ρ fun dy => match dy with
  | .tup ds => wo (D.nk (.tup ds)) fun j => j.depth ≤ 8 ∧ k (.tup ds) j
  | _ => False
theorem wkey_out (R : Rel F U ρ σ H) {y : Rs} {w : V} {k : D → NestedKey → Prop} (hy : RV F U σ H y w) (h : wkey y ρ k) : ∃ b dy j, w = .ref b ∧ dy.nk = some j ∧ Rp F.K H U dy (.ref b) ∧ j.depth ≤ 8 ∧ k dy j := by
  obtain ⟨dy, ey, h⟩ := wd_out h
  cases dy <;> first | exact h.elim | skip
  obtain ⟨j, ej, hd, h⟩ := wo_out h
  obtain ⟨b, vs, rfl, _, _, r⟩ := hy.tup R ey
  exact ⟨b, _, j, rfl, ej, r, hd, h⟩
def wdn (w : World) (x y : Rs) (ρ : En) (k : List (D × D) → D → NestedKey → Prop) : Prop := wd x ρ fun dx => match dx with
  | .din w' kvs => w' = w ∧ wkey y ρ fun dy j => k kvs dy j
  | _ => False
theorem wdn_out (R : Rel F U ρ σ H) {w : World} {x y : Rs} {v u : V} {k : List (D × D) → D → NestedKey → Prop} (hx : RV F U σ H x v) (hy : RV F U σ H y u) (h : wdn w x y ρ k) :
    ∃ a b xs kvs dy j, v = .ref a ∧ u = .ref b ∧ DNk F.K w H a b xs j ∧ RpN F.K H U kvs xs ∧ dy.nk = some j ∧ Rp F.K H U dy (.ref b) ∧ k kvs dy j := by
  obtain ⟨dx, ex, g⟩ := wd_out h
  cases dx <;> first | exact g.elim | skip
  obtain ⟨rfl, g⟩ := g
  obtain ⟨b, dy, j, rfl, h1, h2, h3, h4⟩ := wkey_out R hy g
  obtain ⟨a, xs, rfl, z1, z2⟩ := hx.din R ex
  exact ⟨a, b, xs, _, dy, j, rfl, rfl, ⟨z1, z2.keys, Rp.nk dy _ j h1 h2, h3⟩, z2, h1, h2, h4⟩
/-- d[k] -/
def eNGet (w : World) (fd fy : T3E) : T3E := fun ρ Q => fd ρ fun x ρ1 => fy ρ1 fun y ρ2 => wdn w x y ρ2 fun kvs _ k => wo (getN kvs k) fun d => Q (.val d) ρ2
theorem simNGet {w : World} {td ty : TE} {fd fy : T3E} (h : SimE K td fd) (h' : SimE K ty fy) : SimE K (tNGet K w td ty) (eNGet w fd fy) := by
  intro F U ρ σ H Q3 Q2 e R q k
  refine h F U ρ σ H _ _ e R q fun x v ρ1 H1 R1 s1 q1 h1 => ?_
  refine h' F U ρ1 σ H1 _ _ e R1 h1 fun y u ρ2 H2 R2 s2 q2 h2 => ?_
  obtain ⟨a, b, xs, kvs, dy, j, rfl, rfl, z1, z2, _, _, h2⟩ := wdn_out R2 (q1.pres (s2.pres R1)) q2 h2
  obtain ⟨d, ed, h2⟩ := wo_out h2
  rcases z2.get (k := j) with ⟨n, _⟩ | ⟨d', p, v', n, ep, rv, rp⟩
  · rw [n] at ed; cases ed
  · rw [n] at ed; cases ed
    exact ⟨a, b, xs, j, p, v', rfl, rfl, e ▸ z1, ep, rv, k (.val d) v' ρ2 H2 R2 (s1.trans s2) rp h2⟩
def fNIn (w : World) (neg : Bool) (fy fd : T3E) : T3E := fun ρ Q => fy ρ fun y ρ1 => fd ρ1 fun x ρ2 => wdn w x y ρ2 fun kvs _ k => Q (.val (.bl (if neg then !(getN kvs k).isSome else (getN kvs k).isSome))) ρ2
theorem simNIn {w : World} (neg : Bool) {td ty : TE} {fd fy : T3E} (h : SimE K td fd) (h' : SimE K ty fy) : SimE K (tNIn K w neg ty td) (fNIn w neg fy fd) := by
  intro F U ρ σ H Q3 Q2 e R q k
  refine h' F U ρ σ H _ _ e R q fun y u ρ1 H1 R1 s1 q1 h1 => ?_
  refine h F U ρ1 σ H1 _ _ e R1 h1 fun x v ρ2 H2 R2 s2 q2 h2 => ?_
  obtain ⟨a, b, xs, kvs, dy, j, rfl, rfl, z1, z2, _, _, h2⟩ := wdn_out R2 q2 (q1.pres (s2.pres R1)) h2
  refine ⟨a, b, xs, j, rfl, rfl, e ▸ z1, k (.val _) _ ρ2 H2 R2 (s1.trans s2) rvB ?_⟩
  rcases z2.get (k := j) with ⟨n, n'⟩ | ⟨d', p, v', n, ep, _, _⟩
  · rw [n] at h2; rw [n']; exact h2
  · rw [n] at h2; rw [ep]; exact h2
/-- d[k] = e -/
def sNPutD (w : World) (f fd fy : T3E) : T3S := fun E ρ => f ρ fun r ρ1 => fd ρ1 fun x ρ2 => fy ρ2 fun y ρ3 => match r with
  | .val d => wkey y ρ3 fun dy j => ww x ρ3 fun dx up => match dx with
    | .din w' kvs => w' = w ∧ kvs.length < sizeLine ∧ E.nx (up (.din w (putN kvs dy j d)))
    | _ => False
  | _ => False
theorem simNPut {w : World} {t td ty : TE} {f fd fy : T3E} (h : SimE K t f) (hd : SimE K td fd) (hy : SimE K ty fy) : SimS K (sNPut K w td ty t) (sNPutD w f fd fy) := by
  intro F U ρ σ H D3 D2 e R q k
  refine h F U ρ σ H _ _ e R q fun r v ρ1 H1 R1 s1 q1 h1 => ?_
  refine hd F U ρ1 σ H1 _ _ e R1 h1 fun o vo ρ2 H2 R2 s2 q2 h2 => ?_
  refine hy F U ρ2 σ H2 _ _ e R2 h2 fun i vi ρ3 H3 R3 s3 q3 h3 => ?_
  cases r <;> first | exact h3.elim | skip
  rename_i d
  obtain ⟨b, dy, j, rfl, y1, y2, y3, h3⟩ := wkey_out R3 q3 h3
  obtain ⟨dl, up, a, rfl, u, t', wr, h3⟩ := ww_out R3 (q2.pres (s3.pres R2)) h3
  cases dl <;> first | exact h3.elim | skip
  rename_i w' kvs
  obtain ⟨rfl, hl, h3⟩ := h3
  obtain ⟨xs, z1, z2⟩ := t'
  have rd : Rp F.K H3 U d v := Rp.pres (s3.pres R2) _ _ (Rp.pres (s2.pres R1) _ _ q1)
  refine ⟨a, b, xs, j, rfl, rfl, z1, e ▸ ⟨.inl z1, z2.keys, Rp.nk dy _ j y1 y2, y3⟩, by rw [z2.len]; exact hl, fun x rx => ?_⟩
  obtain ⟨R', S'⟩ := wr (d' := .din w' (putN kvs dy j d)) ⟨_, upd_same, RpN.pres (pres_w R3 u) _ _ (z2.put y1 y3 y2 rd rx)⟩
  exact k.nx _ _ _ _ R' h3
/-- d.get(k, x) -/
def eNG2 (w : World) (fd fy fx : T3E) : T3E := fun ρ Q => fd ρ fun x ρ1 => wd x ρ1 fun dx => match dx with
  | .din w' _ => w' = w ∧ fy ρ1 fun y ρ2 => fx ρ2 fun z ρ3 => match z with
    | .val dz => wdn w x y ρ3 fun kvs _ k => Q (.val ((getN kvs k).getD dz)) ρ3
    | _ => False
  | _ => False
theorem simNG2 {w : World} {td ty tx : TE} {fd fy fx : T3E} (h : SimE K td fd) (hy : SimE K ty fy) (hx : SimE K tx fx) : SimE K (tNGet2 K w td ty tx) (eNG2 w fd fy fx) := by
  intro F U ρ σ H Q3 Q2 e R q k
  refine h F U ρ σ H _ _ e R q fun x v ρ1 H1 R1 s1 q1 h1 => ?_
  obtain ⟨d, ed, h1⟩ := wd_out h1
  cases d <;> first | exact h1.elim | skip
  obtain ⟨rfl, h1⟩ := h1
  obtain ⟨a, xs0, rfl, z1, z2⟩ := q1.din R1 ed
  refine ⟨a, rfl, ⟨xs0, z1⟩, hy F U ρ1 σ H1 _ _ e R1 h1 fun y w' ρ2 H2 R2 s2 q2 h2 => ?_⟩
  refine hx F U ρ2 σ H2 _ _ e R2 h2 fun z u ρ3 H3 R3 s3 q3 h3 => ?_
  cases z <;> first | exact h3.elim | skip
  rename_i dz
  have q1' : RV F U σ H3 x (.ref a) := (q1.pres (s2.pres R1)).pres (s3.pres R2)
  obtain ⟨a', b, xs, kvs, dy, j, ea, rfl, y1, y2, _, _, h4⟩ := wdn_out R3 q1' (q2.pres (s3.pres R2)) h3
  cases ea
  refine ⟨b, xs, j, rfl, e ▸ y1, fun n' => ?_, fun p hp => ?_⟩
  · rcases y2.get (k := j) with ⟨n, _⟩ | ⟨d', p, v', n, ep, _, _⟩
    · rw [n] at h4
      exact k (.val dz) u ρ3 H3 R3 ((s1.trans s2).trans s3) q3 h4
    · rw [n'] at ep; cases ep
  · rcases y2.get (k := j) with ⟨_, n'⟩ | ⟨d', p', v', n, ep, rv, rp⟩
    · rw [n'] at hp; cases hp
    · rw [hp] at ep; cases ep
      rw [n] at h4
      exact ⟨v', rv, k (.val d') v' ρ3 H3 R3 ((s1.trans s2).trans s3) rp h4⟩
/-- {}, to be such a dict -/
def oDicN (w : World) : T3O' := fun ρ Q => Q (.din w []) ρ
theorem simODicN {w : World} : SimEO K (tDNewN w) (oDicN w) := by
  intro F U ρ σ H Q3 Q2 e R q k
  intro p hp
  obtain ⟨R', S', P⟩ := freshEO R (o := .ext (DNat w p [])) hp
  exact k (.din w []) p ρ _ R' S' hp ⟨[], upd_same, by simp only [RpN]⟩ q
end
end L3

set_option Elab.async false
set_option linter.all false
set_option maxRecDepth 100000
namespace L3
open PySem PySem.Spec L2 PyProof.Rows
/-! ### o[i], o[i] = v by an own class -/
def rOwnGet (C : Addr) (sp : Sp) : R2 := fun x y H Q => ∃ a dx fs, x = .ref a ∧ H a = some (.ins C dx fs) ∧ sp [x, y] H Q E0
def sOwnSet (C : Addr) (sp : Sp) (td ty tv : TE) : TS := fun D σ H => tv σ H fun v H1 => td σ H1 fun x H2 => ty σ H2 fun y H3 => ∃ a dx fs, x = .ref a ∧ H3 a = some (.ins C dx fs) ∧ sp [x, y, v] H3 (fun _ H' => D.nx σ H') E0
section
variable {X : Cx} {C g : Addr} {k : Nat} {fd : FuncData} {ps : List Str} {sp : Sp} {a b value o i : Expr} {ta tb td ty tv : TE} {pos pos' : Pos}
theorem run_in1 {pins : List (Addr × Obj)} {σ : L2.St} {H : Hp} {s : Shared} {Q : VK} {us : List Value} {vs : List V} (F : FnOk X.prog X.w X.K X.mg X.base CX0 k g fd ps sp) (hr : Room (k + 1) X.A) (hb : Binds X.K fd ps [])
    (I : Inv X pins σ H s) (r : Vals vs us) (h : sp vs H Q E0) : wpAny (model X.prog X.w) X.A.in1 (call (.ref g) us) (EP X pins σ Q) X.xe s := by
  have hl : (us ++ []).length = ps.length := by rw [List.append_nil, ← r.length]; exact F.len _ _ _ _ h
  refine wpAny_call (codeAny_mono (F.run X.A.in1 X.stack s H ⟨us, []⟩ (us ++ []) vs Q E0 hr.in1 I.env0.in1 (hb s us I.kIn hl) (by rw [List.append_nil]; exact r) h) fun r s' hq => ?_)
  cases r with
  | error er => exact hq.elim
  | ok fl =>
    cases fl with
    | ret u => exact I.after hq
    | next => exact False.elim hq
    | brk => exact False.elim hq
    | cont => exact False.elim hq
theorem pe_getO (hs : PySem.W.findIn X.K (.ref C) "__getitem__" = some (some (.ref g))) (hf : PySem.W.fnIn X.K g = true) (hfn : PySem.W.isFn X.K (.ref g) = true) (Fn : FnOk X.prog X.w X.K X.mg X.base CX0 k g fd ps sp) (hb : Binds X.K fd ps []) (hr : Room (k + 1) X.A)
    (ha : PE X a ta) (hb' : PE X b tb) (hsl : ∀ ov iv, subscripted b true ov iv = runValue (.builtin "lifetime.subscript" ⟨[ov, iv], []⟩)) : PE X (.Subscript a b pos) (tOp (rOwnGet C sp) ta tb) := by
  refine ⟨fun pins s σ H Q I h => ?_⟩
  refine Subscript_ (binT ha hb' I h fun v u s2 x y H2 I2 rx ry q => ?_)
  obtain ⟨p, dx, fs, rfl, e, q⟩ := q
  cases (show v = Value.ref p from rx)
  obtain ⟨mA, O, _⟩ := ins_get I2.hok e
  obtain ⟨od, J, _⟩ := O.look
  obtain ⟨m, hF⟩ := I2.fr
  exact PySem.W.sub_K hF I2.ok.mod.kin J hs hf hfn (run_in1 (us := [.ref p, u]) (vs := [.ref p, y]) Fn hr hb I2 (.cons rfl (.cons ry .nil)) q) (hsl _ _)
theorem setItem_own {pins : List (Addr × Obj)} {σ : L2.St} {H : Hp} {s : Shared} {p dx : Addr} {fs : List (Str × V)} {y v : V} {u r : Value} {Q : Hp → Prop} (hq : PySem.W.noSeq X.K C = true) (hs : PySem.W.findIn X.K (.ref C) "__setitem__" = some (some (.ref g))) (hfn : PySem.W.isFn X.K (.ref g) = true)
    (Fn : FnOk X.prog X.w X.K X.mg X.base CX0 k g fd ps sp) (hb : Binds X.K fd ps []) (hr : Room k X.A) (I : Inv X pins σ H s) (e : H p = some (.ins C dx fs)) (ry : RelV y u) (rv : RelV v r) (h : sp [.ref p, y, v] H (fun _ H' => Q H') E0) :
    wpAny (model X.prog X.w) X.A (setItem (.ref p) u r) (fun _ s' => ∃ H', Inv X pins σ H' s' ∧ Q H') X.xe s := by
  obtain ⟨mA, O, _⟩ := ins_get I.hok e
  obtain ⟨od, J, _⟩ := O.look
  obtain ⟨m, hF⟩ := I.fr
  have X' := I.ok.mod.kin.keeps hF.keep
  unfold setItem sequenceKey
  refine wpAny_holding (wpAny_bind (wpAny_bind (J.type.here ?_)))
  refine wpAny_bind ((PySem.W.anyM_none X' hq).here ?_)
  rw [if_pos (show (!false) = true from rfl)]
  refine wpAny_pure (wpAny_bind (PySem.W.special_fn X' J hs (beq_iff_eq.mp hfn) ?_))
  refine wpAny_mono (run_fn (us := [.ref p, u, r]) (vs := [.ref p, y, v]) Fn hr hb .nil pass0 I (.cons rfl (.cons ry (.cons rv .nil))) h) (fun w s' z => ?_) fun _ _ x => x
  obtain ⟨z', H', I', _, qz⟩ := z
  exact wpAny_pure ⟨H', I', qz⟩
theorem ps_setO (hq : PySem.W.noSeq X.K C = true) (hs : PySem.W.findIn X.K (.ref C) "__setitem__" = some (some (.ref g))) (hfn : PySem.W.isFn X.K (.ref g) = true) (Fn : FnOk X.prog X.w X.K X.mg X.base CX0 k g fd ps sp) (hb : Binds X.K fd ps []) (hr : Room k X.A)
    (ho : PE X o td) (hi : PE X i ty) (hv : PE X value tv) (hs' : swapsWith value (some (.Subscript o i pos')) pos.line X.env = pure false) : PS X (.Assign [.Subscript o i pos'] value pos) (sOwnSet C sp td ty tv) := by
  refine ⟨fun pins s σ H D I h => ?_⟩
  refine wpAny_Assign_Subscript (thn (hv.run pins s σ H _ I h) fun r s1 ⟨v, H1, I1, rv, q1⟩ => thn (ho.run pins s1 σ H1 _ I1 q1) fun u s2 ⟨x, H2, I2, rx, q2⟩ => thn (hi.run pins s2 σ H2 _ I2 q2) fun iv s3 ⟨y, H3, I3, ry, a, dx, fs, ex, g, q3⟩ => ?_) hs'
  subst ex
  obtain rfl : u = Value.ref a := rx
  exact thn (setItem_own hq hs hfn Fn hb hr I3 g ry rv q3) fun _ s4 ⟨H', I4, q4⟩ => ⟨σ, H', I4, q4⟩
end
section
variable {F : Fr} {U U2 : US} {ρ ρ' ρ2 : En} {σ σ2 : L2.St} {H H' H2 : Hp} {K : PySem.W.Frag}
def oOwnGet (C : Addr) (ms : List Md) (sp : S3) (x y : Rs) (ρ : En) (Q : Rs → En → Prop) : Prop := wd x ρ fun dx => match dx with
  | .obj C' _ => C' = C ∧ apart ms [x, y] = true ∧ wo (argsD ms [x, y] ρ) fun ds => sp ds (fun d ds' => Q (.val d) (updE ms [x, y] ds' ρ)) (fun d ds' => Q (.val d) (updE ms [x, y] ds' ρ))
  | _ => False
theorem simOwnGet {C : Addr} {ms : List Md} {sp : S3} (np : noPab ms = true) : SimR2 K (rOwnGet C (Lift K ms sp)) (oOwnGet C ms sp) := by
  intro F U ρ1 σ H1 x y rx ry Q3 Q2 e R1 hx hy h k
  obtain ⟨dx, ex, h1⟩ := wd_out h
  cases dx <;> first | exact h1.elim | skip
  obtain ⟨e1, ap, h3⟩ := h1
  obtain ⟨ds, ed, h1⟩ := wo_out h3
  obtain ⟨a, da, ga, rfl, z1, z2⟩ := hx.obj R1 ex
  subst e
  refine ⟨a, da, ga, rfl, e1 ▸ z1, ?_⟩
  have q1 : RVs F U σ H1 [rx, ry] [.ref a, y] := .cons hx (.cons hy .nil)
  exact callN np R1 (.refl R1) R1 q1 ap ed h1 k E0
def sOwnSetD (C : Addr) (ms : List Md) (sp : S3) (f fd fy : T3E) : T3S := fun E ρ => f ρ fun r ρ1 => fd ρ1 fun x ρ2 => fy ρ2 fun y ρ3 => wd x ρ3 fun dx => match dx with
  | .obj C' _ => C' = C ∧ apart ms [x, y, r] = true ∧ wo (argsD ms [x, y, r] ρ3) fun ds => sp ds (fun _ ds' => E.nx (updE ms [x, y, r] ds' ρ3)) (fun _ ds' => E.nx (updE ms [x, y, r] ds' ρ3))
  | _ => False
theorem simOwnSet {C : Addr} {ms : List Md} {sp : S3} {t td ty : TE} {f fd fy : T3E} (h : SimE K t f) (hd : SimE K td fd) (hy : SimE K ty fy) : SimS K (sOwnSet C (Lift K ms sp) td ty t) (sOwnSetD C ms sp f fd fy) := by
  intro F U ρ σ H D3 D2 e R q k
  refine h F U ρ σ H _ _ e R q fun r v ρ1 H1 R1 s1 q1 h1 => ?_
  refine hd F U ρ1 σ H1 _ _ e R1 h1 fun x vx ρ2 H2 R2 s2 q2 h2 => ?_
  refine hy F U ρ2 σ H2 _ _ e R2 h2 fun y vy ρ3 H3 R3 s3 q3 h3 => ?_
  obtain ⟨dx, ex, h3⟩ := wd_out h3
  cases dx <;> first | exact h3.elim | skip
  obtain ⟨ec, ap, h3⟩ := h3
  obtain ⟨ds, ed, h3⟩ := wo_out h3
  have q2' := q2.pres (s3.pres R2)
  obtain ⟨a, da, ga, rfl, z1, z2⟩ := q2'.obj R3 ex
  subst e
  refine ⟨a, da, ga, rfl, ec ▸ z1, ?_⟩
  have qq : RVs F U σ H3 [x, y, r] [.ref a, vy, v] := .cons q2' (.cons q3 (.cons ((q1.pres (s2.pres R1)).pres (s3.pres R2)) .nil))
  exact callG R3 qq ap ed h3 (fun _ U' ρ' H' R' q => k.nx _ _ _ _ R' q) E0
end

/-! ### the combined judgements -/
/-- a special method of a class -/
structure Sm3 (P : Program) (w : World) (K : PySem.W.Frag) (mg : Str → Option Value) (base : Heap) (k : Nat) (C : Addr) (m : Str) (ms : List Md) (sp : S3) : Prop where
  ex : ∃ (g : Addr) (fd : FuncData) (ps : List Str), PySem.W.findIn K (.ref C) m = some (some (.ref g)) ∧ PySem.W.fnIn K g = true ∧ PySem.W.isFn K (.ref g) = true ∧ PySem.W.noSeq K C = true ∧ FnOk P w K mg base CX0 k g fd ps (Lift K ms sp) ∧ Binds K fd ps []
structure MkB3 (P : Program) (w : World) (K : PySem.W.Frag) (mg : Str → Option Value) (base : Heap) (k : Nat) (x : Str) (C : Addr) (ms : List Md) (sp : S3) : Prop where
  ex : ∃ (f : Addr) (fd : FuncData) (ps : List Str), Mk K C f ∧ FnOk P w K mg base CX0 k f fd ps (Lift K (.pab :: ms) sp) ∧ mg x = some (.ref C) ∧ Binds K fd ps []
structure QOB {ι : Type} (K : PySem.W.Frag) (X : ι → Cx) (e : Expr) (f : T3O') : Prop where
  ex : ∃ t : TE, (∀ i, PE (X i) e t) ∧ SimEB K t f
section
variable {ι : Type} {X : ι → Cx} {K : PySem.W.Frag} {pos p p2 pos' apos cpos spos : Pos} {e a b c d' tg iter o value : Expr} {es rest ifs : List Expr} {f g h fv fo : T3E} {x y : Str} {st : Stmt} {sts body els : List Stmt} {fs gs : T3S} {ft : T3T} {fa : T3A}
variable {ms : List Md} {sp : S3} {k j : Nat} {C : Addr} {m : Str} {w : World}
theorem sfrz (n : Nat) (h : QS K X st fs) : QS K X st (sFrz n fs) := let ⟨_, a1, a2⟩ := h.ex; ⟨_, a1, simFrz n a2⟩
theorem smov (n m' : Nat) (hN1 : ∀ i, (X i).N[n]? = some y := by exact fun _ => rfl) (hv1 : ∀ i, Vis (X i).env.scope y := by first | exact fun _ => Or.inl rfl | exact fun _ => Or.inr (Or.inl rfl) | exact fun _ => Or.inr (Or.inr rfl))
    (hd : (y == ("__debug__" : Str)) = false := by decide) (hcd : (y == ("__classdict__" : Str)) = false := by decide) (hN : ∀ i, (X i).N[m']? = some x := by exact fun _ => rfl) (hnd : ∀ i, (X i).N.Nodup := by exact fun _ => by decide) (hx : ∀ i, Loc (X i).env.scope x := by first | exact fun _ => Or.inl rfl | exact fun _ => Or.inr rfl)
    (hs : ∀ i, swapsWith (.Name y p) (some (.Name x pos')) pos.line (X i).env = pure false := by exact fun _ => rfl) (hf : ∀ i, (X i).fn x = true ∨ (X i).env.scope.names.lookup x = some .local := by first | exact fun _ => Or.inl rfl | exact fun _ => Or.inr rfl) :
    QS K X (.Assign [.Name x pos'] (.Name y p) pos) (sMov n m') := ⟨_, fun i => ps_set (hnd i) (hN i) (hx i) (pe_var (hN1 i) (hv1 i) hd hcd) (hs i) (hf i), simMov n m'⟩
theorem qfldB (hc : Cls K C) (hn : NoAttr K C m) (ho : QE K X a f) (hK : ∀ i, (X i).K = K := by exact fun _ => rfl) (hb : ∀ i, attributeBase a m (X i).env (eval a (X i).env) = eval a (X i).env := by exact fun _ => rfl) : QE K X (.Attribute a m pos) (eFldB C m f) :=
  let ⟨t, h1, h2⟩ := ho.ex; ⟨tFld K t m, fun i => hK i ▸ pe_fld (h1 i) (hb i), simFldB hc hn h2⟩
theorem sfldX (hc : Cls K C) (hn : NoAttr K C m) (ho : QE K X o fo) (hv : QE K X value fv) (hK : ∀ i, (X i).K = K := by exact fun _ => rfl) (hs : ∀ i, swapsWith value (some (.Attribute o m pos')) pos.line (X i).env = pure false := by exact fun _ => rfl) : QS K X (.Assign [.Attribute o m pos'] value pos) (sFldX C m fv fo) :=
  let ⟨t, a1, a2⟩ := ho.ex; let ⟨u, b1, b2⟩ := hv.ex; ⟨sFld K t u m, fun i => hK i ▸ ps_fld (a1 i) (b1 i) (hs i), simFldX hc hn b2 a2⟩
theorem sfldN {fv : T3O'} (hc : Cls K C) (hn : NoAttr K C m) (ho : QE K X o fo) (hv : QO K X value fv) (hK : ∀ i, (X i).K = K := by exact fun _ => rfl) (hs : ∀ i, swapsWith value (some (.Attribute o m pos')) pos.line (X i).env = pure false := by exact fun _ => rfl) : QS K X (.Assign [.Attribute o m pos'] value pos) (sFldN C m fv fo) :=
  let ⟨t, a1, a2⟩ := ho.ex; let ⟨u, b1, b2⟩ := hv.ex; ⟨sFld K t u m, fun i => hK i ▸ ps_fld (a1 i) (b1 i) (hs i), simFldN hc hn b2 a2⟩
theorem sfldM (n : Nat) (hc : Cls K C) (hn : NoAttr K C m) (ho : QE K X o fo) (hN : ∀ i, (X i).N[n]? = some x := by exact fun _ => rfl) (hv : ∀ i, Vis (X i).env.scope x := by first | exact fun _ => Or.inl rfl | exact fun _ => Or.inr (Or.inl rfl) | exact fun _ => Or.inr (Or.inr rfl))
    (hd : (x == ("__debug__" : Str)) = false := by decide) (hcd : (x == ("__classdict__" : Str)) = false := by decide) (hK : ∀ i, (X i).K = K := by exact fun _ => rfl) (hs : ∀ i, swapsWith (.Name x p) (some (.Attribute o m pos')) pos.line (X i).env = pure false := by exact fun _ => rfl) : QS K X (.Assign [.Attribute o m pos'] (.Name x p) pos) (sFldM C m n fo) :=
  let ⟨t, a1, a2⟩ := ho.ex; ⟨sFld K t (tVar n) m, fun i => hK i ▸ ps_fld (a1 i) (pe_var (hN i) (hv i) hd hcd) (hs i), simFldM hc hn a2⟩
theorem omakeB (cf : ∀ i, MkB3 (X i).prog (X i).w K (X i).mg (X i).base k x C ms sp) (hR : ∀ i, Room j (X i).A) (hk : k + 1 ≤ j) (ha : QA K X (e :: es) fa) (hK : ∀ i, (X i).K = K := by exact fun _ => rfl) (hg : ∀ i, Gl (X i) x := by exact fun _ => rfl) (hdb : (x == ("__debug__" : Str)) = false := by decide)
    (he : ∀ i, starEach (e :: es) (X i).env = (false, eval e (X i).env) :: starEach es (X i).env := by exact fun _ => rfl) (hpl : ∀ i, (backTo pos (starEach es (X i).env)).any (·.1) = false := by exact fun _ => rfl) (np : noPab ms = true := by rfl) :
    QOB K X (.Call (.Name x p) (e :: es) [] pos) (oMake C ms sp fa) :=
  let ⟨u, h1, h2⟩ := ha.ex
  ⟨tMake C (Lift K (.pab :: ms) sp) [] E0 u, fun i => by
    obtain ⟨f, fd, ps, M, F, hm, b⟩ := (cf i).ex
    have e := hK i
    subst e
    exact pe_make M F ((hR i).mono hk) (hg i) hm b .nil pass0 (h1 i) hdb (he i) (hpl i), simOMakeB np h2⟩
theorem ssetB (n : Nat) {f : T3O'} (he : QOB K X e f) (hN : ∀ i, (X i).N[n]? = some x := by exact fun _ => rfl) (hnd : ∀ i, (X i).N.Nodup := by exact fun _ => by decide) (hx : ∀ i, Loc (X i).env.scope x := by first | exact fun _ => Or.inl rfl | exact fun _ => Or.inr rfl)
    (hs : ∀ i, swapsWith e (some (.Name x pos')) pos.line (X i).env = pure false := by exact fun _ => rfl) (hf : ∀ i, (X i).fn x = true ∨ (X i).env.scope.names.lookup x = some .local := by first | exact fun _ => Or.inl rfl | exact fun _ => Or.inr rfl) :
    QS K X (.Assign [.Name x pos'] e pos) (sAsgB f n) := let ⟨_, a1, a2⟩ := he.ex; ⟨_, fun i => ps_set (hnd i) (hN i) (hx i) (a1 i) (hs i) (hf i), simAsgB a2 n⟩
theorem smeth {pl : ι → Sem Bool} (cf : ∀ i, Me3 (X i).prog (X i).w K (X i).mg (X i).base k C m ms sp) (hR : ∀ i, Room j (X i).A) (hk : k ≤ j) (ho : QE K X a f) (ha : QA K X (e :: es) fa) (hK : ∀ i, (X i).K = K := by exact fun _ => rfl)
    (hst : ∀ i, starEach (e :: es) (X i).env = (false, eval e (X i).env) :: starEach es (X i).env := by exact fun _ => rfl) (hpl : ∀ i, (backTo cpos (starEach es (X i).env)).any (·.1) = false := by exact fun _ => rfl)
    (ht : ∀ i, eval (.Call (.Attribute a m apos) (e :: es) [] cpos) (X i).env = (do
      let ov ← eval a (X i).env
      standAt apos.atName
      let (f, first) ← holding [ov] (getMethod ov m (pl i))
      callWith cpos f first (backTo cpos (starEach (e :: es) (X i).env)) (backToKw cpos (keywordEach [] (X i).env))) := by exact fun _ => rfl)
    (hs : ∀ i, swapsWith (.Call (.Attribute a m apos) (e :: es) [] cpos) none pos.line (X i).env = pure false := by exact fun _ => rfl) :
    QS K X (.Expr (.Call (.Attribute a m apos) (e :: es) [] cpos) pos) (sMeth C m ms sp f fa) :=
  let ⟨t, h1, h2⟩ := ho.ex; let ⟨u, h3, h4⟩ := ha.ex
  ⟨tDrop (tMeth C m (Lift K ms sp) [] E0 t u), fun i => by
    obtain ⟨g, fd, ps, c, me, F, b⟩ := (cf i).ex
    have e := hK i
    subst e
    exact ps_expr (pe_meth (h1 i) c me F ((hR i).mono hk) b .nil pass0 (h3 i) (hst i) (hpl i) (ht i)) (hs i), simSMeth h2 h4⟩
theorem qmethB {pl : ι → Sem Bool} (cf : ∀ i, Me3 (X i).prog (X i).w K (X i).mg (X i).base k C m ms sp) (hR : ∀ i, Room j (X i).A) (hk : k ≤ j) (ho : QE K X a f) (ha : QA K X (e :: es) fa) (hK : ∀ i, (X i).K = K := by exact fun _ => rfl)
    (hst : ∀ i, starEach (e :: es) (X i).env = (false, eval e (X i).env) :: starEach es (X i).env := by exact fun _ => rfl) (hpl : ∀ i, (backTo pos (starEach es (X i).env)).any (·.1) = false := by exact fun _ => rfl)
    (ht : ∀ i, eval (.Call (.Attribute a m apos) (e :: es) [] pos) (X i).env = (do
      let ov ← eval a (X i).env
      standAt apos.atName
      let (f, first) ← holding [ov] (getMethod ov m (pl i))
      callWith pos f first (backTo pos (starEach (e :: es) (X i).env)) (backToKw pos (keywordEach [] (X i).env))) := by exact fun _ => rfl) :
    QE K X (.Call (.Attribute a m apos) (e :: es) [] pos) (eMethB C m ms sp f fa) :=
  let ⟨t, h1, h2⟩ := ho.ex; let ⟨u, h3, h4⟩ := ha.ex
  ⟨tMeth C m (Lift K ms sp) [] E0 t u, fun i => by
    obtain ⟨g, fd, ps, c, me, F, b⟩ := (cf i).ex
    have e := hK i
    subst e
    exact pe_meth (h1 i) c me F ((hR i).mono hk) b .nil pass0 (h3 i) (hst i) (hpl i) (ht i), simMethB h2 h4⟩
theorem qgetO (cf : ∀ i, Sm3 (X i).prog (X i).w K (X i).mg (X i).base k C "__getitem__" ms sp) (hR : ∀ i, Room j (X i).A) (hk : k + 1 ≤ j) (ha : QE K X a f) (hb : QE K X b g) (hK : ∀ i, (X i).K = K := by exact fun _ => rfl)
    (hsl : ∀ ov iv, subscripted b true ov iv = runValue (.builtin "lifetime.subscript" ⟨[ov, iv], []⟩) := by exact fun _ _ => rfl) (np : noPab ms = true := by rfl) : QE K X (.Subscript a b pos) (eOp (oOwnGet C ms sp) f g) :=
  let ⟨t, h1, h2⟩ := ha.ex; let ⟨u, h3, h4⟩ := hb.ex
  ⟨tOp (rOwnGet C (Lift K ms sp)) t u, fun i => by
    obtain ⟨g, fd, ps, a1, a2, a3, a4, F, bd⟩ := (cf i).ex
    have e := hK i
    subst e
    exact pe_getO a1 a2 a3 F bd ((hR i).mono hk) (h1 i) (h3 i) hsl, simOp (simOwnGet np) h2 h4⟩
theorem ssetO' {i' : Expr} (cf : ∀ i, Sm3 (X i).prog (X i).w K (X i).mg (X i).base k C "__setitem__" ms sp) (hR : ∀ i, Room j (X i).A) (hk : k ≤ j) (he : QE K X e f) (ho : QE K X o fo) (hi : QE K X i' h) (hK : ∀ i, (X i).K = K := by exact fun _ => rfl)
    (hs : ∀ i, swapsWith e (some (.Subscript o i' pos')) pos.line (X i).env = pure false := by exact fun _ => rfl) : QS K X (.Assign [.Subscript o i' pos'] e pos) (sOwnSetD C ms sp f fo h) :=
  let ⟨t, h1, h2⟩ := he.ex; let ⟨u, h3, h4⟩ := ho.ex; let ⟨v, h5, h6⟩ := hi.ex
  ⟨sOwnSet C (Lift K ms sp) u v t, fun i => by
    obtain ⟨g, fd, ps, a1, a2, a3, a4, F, bd⟩ := (cf i).ex
    have e := hK i
    subst e
    exact ps_setO a4 a1 a3 F bd ((hR i).mono hk) (h3 i) (h5 i) (h1 i) (hs i), simOwnSet h2 h4 h6⟩
theorem hu9 {A : Around} {k : Nat} (hr : Room k A) : A.units + 9 < cLine := by have := hr.un; omega
theorem odicN (hw : ∀ i, (X i).w = w := by exact fun _ => rfl) : QO K X (.Dict [] [] pos) (oDicN w) := ⟨tDNewN w, fun i => hw i ▸ pe_dnewN, simODicN⟩
theorem qnget (hR : ∀ i, Room k (X i).A) (ha : QE K X a f) (hb : QE K X b g) (hs : NoSl b := by exact fun _ _ => rfl) (hw : ∀ i, (X i).w = w := by exact fun _ => rfl) (hK : ∀ i, (X i).K = K := by exact fun _ => rfl) : QE K X (.Subscript a b pos) (eNGet w f g) :=
  let ⟨t, h1, h2⟩ := ha.ex; let ⟨u, h3, h4⟩ := hb.ex; ⟨tNGet K w t u, fun i => by have e := hK i; have e2 := hw i; subst e; subst e2; exact pe_nget (hu9 (hR i)) (h1 i) (h3 i) hs, simNGet h2 h4⟩
theorem qnin (hR : ∀ i, Room k (X i).A) (hi : QE K X a f) (ho : QE K X b g) (hm : behindInMarks .In b = false := by rfl) (hw : ∀ i, (X i).w = w := by exact fun _ => rfl) (hK : ∀ i, (X i).K = K := by exact fun _ => rfl) : QE K X (.Compare a [.In] [b] pos) (fNIn w false f g) :=
  let ⟨t, h1, h2⟩ := hi.ex; let ⟨u, h3, h4⟩ := ho.ex; ⟨tNIn K w false t u, fun i => by have e := hK i; have e2 := hw i; subst e; subst e2; exact pe_cmp (pc_nin (hu9 (hR i)) (h1 i) (h3 i)) hm, simNIn false h4 h2⟩
theorem qnnotin (hR : ∀ i, Room k (X i).A) (hi : QE K X a f) (ho : QE K X b g) (hm : behindInMarks .NotIn b = false := by rfl) (hw : ∀ i, (X i).w = w := by exact fun _ => rfl) (hK : ∀ i, (X i).K = K := by exact fun _ => rfl) : QE K X (.Compare a [.NotIn] [b] pos) (fNIn w true f g) :=
  let ⟨t, h1, h2⟩ := hi.ex; let ⟨u, h3, h4⟩ := ho.ex; ⟨tNIn K w true t u, fun i => by have e := hK i; have e2 := hw i; subst e; subst e2; exact pe_cmp (pc_nnotin (hu9 (hR i)) (h1 i) (h3 i)) hm, simNIn true h4 h2⟩
theorem tnin (hR : ∀ i, Room k (X i).A) (hi : QE K X a f) (ho : QE K X b g) (hm : behindInMarks .In b = false := by rfl) (hw : ∀ i, (X i).w = w := by exact fun _ => rfl) (hK : ∀ i, (X i).K = K := by exact fun _ => rfl) : QT K X (.Compare a [.In] [b] pos) (fTst (fNIn w false f g)) :=
  let ⟨t, h1, h2⟩ := hi.ex; let ⟨u, h3, h4⟩ := ho.ex; ⟨tTest (tNIn K w false t u), fun i => by have e := hK i; have e2 := hw i; subst e; subst e2; exact pt_cmp (pc_nin (hu9 (hR i)) (h1 i) (h3 i)) hm, simTst (simNIn false h4 h2)⟩
theorem tnnotin (hR : ∀ i, Room k (X i).A) (hi : QE K X a f) (ho : QE K X b g) (hm : behindInMarks .NotIn b = false := by rfl) (hw : ∀ i, (X i).w = w := by exact fun _ => rfl) (hK : ∀ i, (X i).K = K := by exact fun _ => rfl) : QT K X (.Compare a [.NotIn] [b] pos) (fTst (fNIn w true f g)) :=
  let ⟨t, h1, h2⟩ := hi.ex; let ⟨u, h3, h4⟩ := ho.ex; ⟨tTest (tNIn K w true t u), fun i => by have e := hK i; have e2 := hw i; subst e; subst e2; exact pt_cmp (pc_nnotin (hu9 (hR i)) (h1 i) (h3 i)) hm, simTst (simNIn true h4 h2)⟩
theorem snput {i' : Expr} (hR : ∀ i, Room k (X i).A) (he : QE K X e f) (ho : QE K X o fo) (hi : QE K X i' h) (hs : ∀ i, swapsWith e (some (.Subscript o i' pos')) pos.line (X i).env = pure false := by exact fun _ => rfl) (hw : ∀ i, (X i).w = w := by exact fun _ => rfl) (hK : ∀ i, (X i).K = K := by exact fun _ => rfl) : QS K X (.Assign [.Subscript o i' pos'] e pos) (sNPutD w f fo h) :=
  let ⟨t, h1, h2⟩ := he.ex; let ⟨u, h3, h4⟩ := ho.ex; let ⟨v, h5, h6⟩ := hi.ex; ⟨sNPut K w u v t, fun i => by have e := hK i; have e2 := hw i; subst e; subst e2; exact ps_nput (hu9 (hR i)) (h3 i) (h5 i) (h1 i) (hs i), simNPut h2 h4 h6⟩
theorem qng2 (hR : ∀ i, Room k (X i).A) (ho : QE K X o f) (he : QE K X a g) (hf : QE K X b h) (m : ∀ i, M2 (X i) o "get" apos a b cpos := by exact fun _ => ⟨rfl, rfl, rfl, rfl⟩) (hw : ∀ i, (X i).w = w := by exact fun _ => rfl) (hK : ∀ i, (X i).K = K := by exact fun _ => rfl) : QE K X (.Call (.Attribute o "get" apos) [a, b] [] cpos) (eNG2 w f g h) :=
  let ⟨t, h1, h2⟩ := ho.ex; let ⟨u, h3, h4⟩ := he.ex; let ⟨v, h5, h6⟩ := hf.ex; ⟨tNGet2 K w t u v, fun i => by have e := hK i; have e2 := hw i; subst e; subst e2; exact pe_nget2 (hu9 (hR i)) (h1 i) (h3 i) (h5 i) (m i), simNG2 h2 h4 h6⟩
end
end L3

set_option Elab.async false
set_option linter.all false
set_option maxRecDepth 100000
namespace L3
open PySem PySem.Spec L2
section
variable {P : Program} {w : World} {K : PySem.W.Frag} {mg : Str → Option Value} {base : Heap} {x gx qual : Str} {st : Stmt} {f : Addr} {N ps : List Str} {k n : Nat} {ms : List Md} {sp : S3} {t3 : T3S} {C : Addr} {m : Str}
theorem mkb3 (F : ∃ f, Df K x qual st f ∧ Mk K C f ∧ mg gx = some (.ref C)) (hb : BindN x qual st ps) (S : FnScope N ps (defScope st)) (hl : ps.length = ms.length + 1) (hN : N.length = ms.length + 1 + n) (hw : ∀ f, QB K (CxR k P w K mg base N qual (defScope st) f) (defBody st) t3)
    (hsp : ∀ ds QR QO, sp ds QR QO → ds.length = ms.length + 1 → t3 (endE (.pab :: ms) ds QR QO) (startE n (.pab :: ms) ds)) : MkB3 P w K mg base (k + 1) gx C ms sp := by
  obtain ⟨f, F, M, hm⟩ := F
  obtain ⟨fd, h1, h2⟩ := fk (ms := .pab :: ms) F hb S hl hN (hw f) hsp
  exact ⟨f, fd, ps, M, h1, hm, h2⟩
theorem sm3 (F : ∃ f, Df K x qual st f ∧ PySem.W.findIn K (.ref C) m = some (some (.ref f)) ∧ PySem.W.fnIn K f = true ∧ PySem.W.isFn K (.ref f) = true ∧ PySem.W.noSeq K C = true) (hb : BindN x qual st ps) (S : FnScope N ps (defScope st)) (hl : ps.length = ms.length) (hN : N.length = ms.length + n) (hw : ∀ f, QB K (CxR k P w K mg base N qual (defScope st) f) (defBody st) t3)
    (hsp : ∀ ds QR QO, sp ds QR QO → ds.length = ms.length → t3 (endE ms ds QR QO) (startE n ms ds)) : Sm3 P w K mg base (k + 1) C m ms sp := by
  obtain ⟨f, F, a1, a2, a3, a4⟩ := F
  obtain ⟨fd, h1, h2⟩ := fk F hb S hl hN (hw f) hsp
  exact ⟨f, fd, ps, a1, a2, a3, a4, h1, h2⟩
theorem dsm_mk {oc kV doc pm cdv ct : Value} {od an : Option Addr} {sl : Array (Option Value)} (a : PySem.W.findIn K (.ref C) m = some (some (.ref f))) (l : K.lookup f = some ⟨oc, od, .func (PySem.W.fnOf x qual (defArgs st) (defBody st) (defScope st) .none kV doc pm an cdv ct), sl⟩) (c : PySem.W.codeIn K cdv qual = true) (k : PySem.W.keepIn K (.ref f) = true)
    (fi : PySem.W.fnIn K f = true) (i : PySem.W.isFn K (.ref f) = true) (q : PySem.W.noSeq K C = true) : ∃ f, Df K x qual st f ∧ PySem.W.findIn K (.ref C) m = some (some (.ref f)) ∧ PySem.W.fnIn K f = true ∧ PySem.W.isFn K (.ref f) = true ∧ PySem.W.noSeq K C = true := ⟨f, df_mk l c k, a, fi, i, q⟩
end
end L3

set_option Elab.async false
set_option linter.all false
set_option maxRecDepth 100000
namespace L3
open PySem PySem.Spec L2
/-! ### a comprehension with two fors, the inner one over a range -/
def SimIX (K : PySem.W.Frag) (wk : Bool) (w2 : TI) (w3 : T3I) : Prop :=
  ∀ (F : Fr) (U : US) (ρ : En) (σ : St) (H : Hp) (Q3 : It3 → En → Prop) (R2 : It → Hp → Prop), F.K = K → Rel F U ρ σ H → w3 ρ Q3 →
    (∀ J it ρ' H', Rel F U ρ' σ H' → Stp ρ σ H ρ' H' → JOk K U H' (fun _ => True) wk J it.items → Q3 it ρ' → R2 J H') → w2 σ H R2
def lcL2 (g : T3G) (tt : T3T) (w1 : T3I) (g1 : T3G) (tt1 : T3T) (te : T3E) (vs vs1 : List Nat) (Q : List D → En → Prop) : List D → List D → En → Prop
  | [], acc, ρ => Q acc ρ
  | x :: xs, acc, ρ => noW ρ vs = true ∧ g x (wipeE ρ vs) fun ρ2 => tt ρ2 fun b ρ3 =>
    if b = true then w1 ρ3 fun it1 ρ4 => lcL g1 tt1 te vs1 (fun acc' ρ5 => lcL2 g tt w1 g1 tt1 te vs vs1 Q xs acc' (restE ρ vs ρ5)) it1.items acc ρ4
    else lcL2 g tt w1 g1 tt1 te vs vs1 Q xs acc (restE ρ vs ρ3)
def oLc2 (w : T3I) (g : T3G) (tt : T3T) (w1 : T3I) (g1 : T3G) (tt1 : T3T) (te : T3E) (vs vs1 : List Nat) : T3O' := fun ρ Q => w ρ fun it ρ1 => lcL2 g tt w1 g1 tt1 te vs vs1 (fun ds ρ2 => okL ρ1 it.r ρ2 ∧ Q (.lst ds) (unlockE ρ1 it.r ρ2)) it.items [] (lockE ρ1 it.r)
section
variable {F : Fr} {U U2 : US} {ρ ρ' ρ2 : En} {σ σ2 : St} {H H' H2 : Hp} {K : PySem.W.Frag}
theorem simLc2 {wk wk1 : Bool} {wi wi1 : TI} {g g1 : TG} {tt tt1 : TT} {te : TE} {vs vs1 ix ix1 : List Nat} {w3 w31 : T3I} {g3 g31 : T3G} {tt3 tt31 : T3T} {te3 : T3E} (hw : SimI K wk wi w3) (hg : SimG K wk g g3 ix) (ht : SimT K tt tt3) (hw1 : SimIX K wk1 wi1 w31) (hg1 : SimG K wk1 g1 g31 ix1) (ht1 : SimT K tt1 tt31) (he : SimE K te te3)
    (hix : ix.all (fun i => vs.contains i) = true) (hix1 : ix1.all (fun i => vs1.contains i) = true) :
    SimEO K (tLc2 wi g tt wi1 g1 tt1 te vs vs1) (oLc2 w3 g3 tt3 w31 g31 tt31 te3 vs vs1) := by
  have hix : ∀ i ∈ ix, i ∈ vs := fun i hi => by simpa using List.all_eq_true.mp hix i hi
  have hix1 : ∀ i ∈ ix1, i ∈ vs1 := fun i hi => by simpa using List.all_eq_true.mp hix1 i hi
  intro F U ρ σ H Q3 Q2 e R q k
  refine hw F U ρ σ H _ _ e R q fun J it ρ1 H1 R1 s1 jok h1 => ?_
  intro D hD
  have Rf := loopIn R1 it.r
  have noU1 : ¬ U D := R1.noU hD
  have Rg : Rel (F.at U (lockE ρ1 it.r) σ H1) (fun b => U b ∨ b = D) (lockE ρ1 it.r) σ (upd H1 D (.lst [])) := Rf.grow hD (ext_new hD) upd_same
  have noL : ¬ Own (lockE ρ1 it.r) σ D := fun z => noU1 (Rf.ownU z)
  let Fl : Fr := F.at U (lockE ρ1 it.r) σ H1
  have eK : Fl.K = K := e
  refine ⟨fun i m H' => m = it.items.length - i ∧ i ≤ it.items.length ∧ ∃ ρ' acc dacc, Rel Fl (fun b => U b ∨ b = D) ρ' σ H' ∧ H' D = some (.lst acc) ∧ RpAll F.K H' (fun b => U b ∨ b = D) dacc acc ∧ (∀ a, Own ρ' σ a → Own (lockE ρ1 it.r) σ a) ∧
    lcL2 g3 tt3 w31 g31 tt31 te3 vs vs1 (fun ds ρ2 => okL ρ1 it.r ρ2 ∧ Q3 (.lst ds) (unlockE ρ1 it.r ρ2)) (it.items.drop i) dacc ρ', ⟨_, rfl, Nat.zero_le _, lockE ρ1 it.r, [], [], Rg, upd_same, by simp only [RpAll], fun _ h => h, h1⟩, ?_⟩
  rintro i m H' ⟨rfl, hi, ρ', acc, dacc, R', hacc, racc, hown, q'⟩
  have jk := jok Fl (fun b => U b ∨ b = D) ρ' σ H' eK R' R'.pres0 (fun a o h n => R'.keep a o h n) i
  obtain ⟨j1, j2⟩ := jk
  have noD : ¬ Own ρ' σ D := fun z => noL (hown D z)
  by_cases hl : i < it.items.length
  · right
    obtain ⟨d, hd⟩ : ∃ d, it.items[i]? = some d := ⟨_, List.getElem?_eq_getElem hl⟩
    have ed : it.items.drop i = d :: it.items.drop (i + 1) := by
      rw [List.drop_eq_getElem_cons hl]
      congr 1
      rw [List.getElem?_eq_getElem hl] at hd
      exact Option.some.inj hd
    rw [ed] at q'
    obtain ⟨no, q'⟩ := q'
    obtain ⟨g1', g2⟩ := j1 d hd
    refine ⟨g1', fun H2 => ∃ ρ' acc dacc, Rel Fl (fun b => U b ∨ b = D) ρ' σ H2 ∧ H2 D = some (.lst acc) ∧ RpAll F.K H2 (fun b => U b ∨ b = D) dacc acc ∧ (∀ a, Own ρ' σ a → Own (lockE ρ1 it.r) σ a) ∧
      lcL2 g3 tt3 w31 g31 tt31 te3 vs vs1 (fun ds ρ2 => okL ρ1 it.r ρ2 ∧ Q3 (.lst ds) (unlockE ρ1 it.r ρ2)) (it.items.drop (i + 1)) dacc ρ', fun H2 z => ⟨it.items.length - (i + 1), by omega, rfl, hl, z⟩, fun x H3 hy => ?_⟩
    obtain ⟨ex, rx⟩ := g2 x H3 hy
    rw [← eK] at rx
    have Rx := R'.ext ex
    have Px : Pres H' (fun b => U b ∨ b = D) H3 (fun b => U b ∨ b = D) := fun a o h n => ⟨ex a o h, n⟩
    refine hg Fl (fun b => U b ∨ b = D) (wipeE ρ' vs) (L2.wipe σ vs) H3 d x _ _ eK (Rx.wipe no) rx q' fun ρ3 σ3 R3 o3 w3 q3 => ?_
    have w3 : L2.wipe σ3 vs = L2.wipe σ vs := (w3 vs hix).trans wipe_idem
    refine ⟨w3, ht Fl _ ρ3 σ3 H3 _ _ eK R3 q3 fun b ρ4 H4 R4 s4 q4 => ?_⟩
    have no3 : ¬ Own ρ3 σ3 D := fun z => noD (Own_wipe (o3 D z))
    have own3 : ∀ a, Own ρ3 σ3 a → Own (lockE ρ1 it.r) σ a := fun a z => hown a (Own_wipe (o3 a z))
    have P4 : Pres H3 (fun b => U b ∨ b = D) H4 (fun b => U b ∨ b = D) := s4.pres R3
    cases b with
    | false =>
      obtain ⟨R6, o6⟩ := Rx.rest R4 P4 w3 no
      exact ⟨_, acc, dacc, R6, s4.keep D _ (ex D _ hacc) no3, RpAll.pres P4 _ _ (RpAll.pres Px _ _ racc), fun a z => own3 a (s4.own a (o6 a z)), q4⟩
    | true =>
      refine hw1 Fl _ ρ4 σ3 H4 _ _ eK R4 q4 fun J1 it1 ρ5 H5 R5 s5 jok1 h5 => ?_
      have s45 := s4.trans s5
      have P5 : Pres H3 (fun b => U b ∨ b = D) H5 (fun b => U b ∨ b = D) := s45.pres R3
      have own5 : ∀ a, Own ρ5 σ3 a → Own (lockE ρ1 it.r) σ a := fun a z => own3 a (s45.own a z)
      have hacc5 : H5 D = some (.lst acc) := s45.keep D _ (ex D _ hacc) no3
      have racc5 := RpAll.pres P5 _ _ (RpAll.pres Px _ _ racc)
      refine ⟨fun j m H' => m = it1.items.length - j ∧ j ≤ it1.items.length ∧ ∃ ρ6 acc dacc, Rel Fl (fun b => U b ∨ b = D) ρ6 σ3 H' ∧ H' D = some (.lst acc) ∧ RpAll F.K H' (fun b => U b ∨ b = D) dacc acc ∧ (∀ a, Own ρ6 σ3 a → Own (lockE ρ1 it.r) σ a) ∧ Pres H5 (fun b => U b ∨ b = D) H' (fun b => U b ∨ b = D) ∧
        lcL g31 tt31 te3 vs1 (fun acc' ρ5 => lcL2 g3 tt3 w31 g31 tt31 te3 vs vs1 (fun ds ρ2 => okL ρ1 it.r ρ2 ∧ Q3 (.lst ds) (unlockE ρ1 it.r ρ2)) (it.items.drop (i + 1)) acc' (restE ρ' vs ρ5)) (it1.items.drop j) dacc ρ6,
        ⟨_, rfl, Nat.zero_le _, ρ5, acc, dacc, R5, hacc5, racc5, own5, fun a o h n => ⟨h, n⟩, h5⟩, ?_⟩
      rintro j m H6 ⟨rfl, hj, ρ6, acc6, dacc6, R6, hacc6, racc6, own6, P6, q6⟩
      obtain ⟨k1, k2⟩ := jok1 Fl (fun b => U b ∨ b = D) ρ6 σ3 H6 eK R6 P6 (fun a o h n => absurd trivial n) j
      have no6 : ¬ Own ρ6 σ3 D := fun z => noL (own6 D z)
      by_cases hl1 : j < it1.items.length
      · right
        obtain ⟨d1, hd1⟩ : ∃ d, it1.items[j]? = some d := ⟨_, List.getElem?_eq_getElem hl1⟩
        have ed1 : it1.items.drop j = d1 :: it1.items.drop (j + 1) := by
          rw [List.drop_eq_getElem_cons hl1]
          congr 1
          rw [List.getElem?_eq_getElem hl1] at hd1
          exact Option.some.inj hd1
        rw [ed1] at q6
        obtain ⟨nn, q6⟩ := q6
        obtain ⟨m1, m2⟩ := k1 d1 hd1
        refine ⟨m1, fun H' => ∃ ρ6 acc dacc, Rel Fl (fun b => U b ∨ b = D) ρ6 σ3 H' ∧ H' D = some (.lst acc) ∧ RpAll F.K H' (fun b => U b ∨ b = D) dacc acc ∧ (∀ a, Own ρ6 σ3 a → Own (lockE ρ1 it.r) σ a) ∧ Pres H5 (fun b => U b ∨ b = D) H' (fun b => U b ∨ b = D) ∧
          lcL g31 tt31 te3 vs1 (fun acc' ρ5 => lcL2 g3 tt3 w31 g31 tt31 te3 vs vs1 (fun ds ρ2 => okL ρ1 it.r ρ2 ∧ Q3 (.lst ds) (unlockE ρ1 it.r ρ2)) (it.items.drop (i + 1)) acc' (restE ρ' vs ρ5)) (it1.items.drop (j + 1)) dacc ρ6,
          fun H2 z => ⟨it1.items.length - (j + 1), by omega, rfl, hl1, z⟩, fun x1 H7 hy1 => ?_⟩
        obtain ⟨ex1, rx1⟩ := m2 x1 H7 hy1
        rw [← eK] at rx1
        have Rx1 := R6.ext ex1
        have Px1 : Pres H6 (fun b => U b ∨ b = D) H7 (fun b => U b ∨ b = D) := fun a o h n => ⟨ex1 a o h, n⟩
        refine hg1 Fl (fun b => U b ∨ b = D) (wipeE ρ6 vs1) (L2.wipe σ3 vs1) H7 d1 x1 _ _ eK (Rx1.wipe nn) rx1 q6 fun ρ7 σ7 R7 o7 w7 q7 => ?_
        have w7 : L2.wipe σ7 vs1 = L2.wipe σ3 vs1 := (w7 vs1 hix1).trans wipe_idem
        refine ⟨w7, ht1 Fl _ ρ7 σ7 H7 _ _ eK R7 q7 fun b ρ8 H8 R8 s8 q8 => ?_⟩
        have no7 : ¬ Own ρ7 σ7 D := fun z => no6 (Own_wipe (o7 D z))
        have own7 : ∀ a, Own ρ7 σ7 a → Own (lockE ρ1 it.r) σ a := fun a z => own6 a (Own_wipe (o7 a z))
        cases b with
        | false =>
          have P8 : Pres H7 (fun b => U b ∨ b = D) H8 (fun b => U b ∨ b = D) := s8.pres R7
          obtain ⟨R9, o9⟩ := Rx1.rest R8 P8 w7 nn
          exact ⟨_, acc6, dacc6, R9, s8.keep D _ (ex1 D _ hacc6) no7, RpAll.pres P8 _ _ (RpAll.pres Px1 _ _ racc6), fun a z => own7 a (s8.own a (o9 a z)), (P6.trans Px1).trans P8, q8⟩
        | true =>
          refine he Fl _ ρ8 σ7 H8 _ _ eK R8 q8 fun r y ρ9 H9 R9 s9 q9 h9 => ?_
          have s89 := s8.trans s9
          have P9 : Pres H7 (fun b => U b ∨ b = D) H9 (fun b => U b ∨ b = D) := s89.pres R7
          obtain ⟨R10, o10⟩ := Rx1.rest R9 P9 w7 nn
          have own10 : ∀ a, Own (restE ρ6 vs1 ρ9) σ3 a → Own (lockE ρ1 it.r) σ a := fun a z => own7 a (s89.own a (o10 a z))
          have no10 : ¬ Own (restE ρ6 vs1 ρ9) σ3 D := fun z => noL (own10 D z)
          have racc9 := RpAll.pres P9 _ _ (RpAll.pres Px1 _ _ racc6)
          cases r with
          | sl _ => exact h9.elim
          | bx _ _ _ => exact h9.elim
          | val d' =>
            have Pw : Pres H9 (fun b => U b ∨ b = D) (upd H9 D (.lst (acc6 ++ [y]))) (fun b => U b ∨ b = D) := fun a o h n => ⟨by rw [upd_ne (fun e => n (.inr e))]; exact h, n⟩
            refine ⟨acc6, s89.keep D _ (ex1 D _ hacc6) no7, by rw [racc9.len]; exact h9.1, restE ρ6 vs1 ρ9, acc6 ++ [y], dacc6 ++ [d'], R10.poke no10 (.inr rfl) hD, upd_same, ?_, own10, ((P6.trans Px1).trans P9).trans Pw, h9.2⟩
            exact RpAll.pres Pw _ _ (racc9.app (.one q9))
      · left
        have e2 : j = it1.items.length := by omega
        subst e2
        rw [List.drop_length] at q6
        refine ⟨k2 (Nat.le_refl _), ?_⟩
        obtain ⟨R11, o11⟩ := Rx.rest R6 (P5.trans P6) w3 no
        exact ⟨restE ρ' vs ρ6, acc6, dacc6, R11, hacc6, racc6, fun a z => own6 a (o11 a z), q6⟩
  · left
    have e2 : i = it.items.length := by omega
    subst e2
    rw [List.drop_length] at q'
    obtain ⟨ok, q'⟩ := q'
    refine ⟨j2 (Nat.le_refl _), ?_⟩
    have Ro := loopOut R1 it.r R' ok
    refine k (.lst dacc) D _ H' Ro (s1.trans ⟨fun a o h n => R'.keep a o h fun z => n (Own_lockE R1 z), fun a z => ?_, fun a o h => R'.ktr a o h⟩) (back_none s1 hD) ⟨acc, hacc, racc⟩ q'
    rcases Own_unlock z with z | z
    · exact Own_lockE R1 (hown a z)
    · exact z
theorem simIR1X {t : TA} {g : T3A} (h : SimA K t g) : SimIX K false (iRng1 t) (iR1 g) := by
  intro F U ρ σ H Q3 R2 e R q k
  refine h F U ρ σ H _ _ e R q fun rs vs ρ1 H1 R1 s1 q1 h1 => ?_
  cases q1 with
  | nil => exact h1.elim
  | cons q1 qs =>
    cases qs with
    | cons _ _ => exact h1.elim
    | nil =>
      obtain ⟨d, e1, h1⟩ := wd_out h1
      cases d <;> first | exact h1.elim | skip
      exact ⟨_, by rw [q1.int R1 e1], h1.1.1, h1.1.2, k _ ⟨_, .val .non⟩ ρ1 H1 R1 s1 jok_r h1.2⟩
end
structure QIX {ι : Type} (K : PySem.W.Frag) (X : ι → Cx) (wk : Bool) (tg iter : Expr) (f : T3I) : Prop where
  ex : ∃ t, (∀ i, PI (X i) tg iter t) ∧ SimIX K wk t f
section
variable {ι : Type} {K : PySem.W.Frag} {X : ι → Cx} {tg tg1 iter iter1 a : Expr} {fa : T3A} {p pos spos : Pos} {ifs ifs1 : List Expr} {ft ft1 : T3T} {y : Str}
theorem irng1x (hm : ∀ i, (X i).mg "range" = none) (ha : QA K X [a] fa) (hg : ∀ i, Gl (X i) "range" := by exact fun _ => rfl) (hs : ∀ i, starEach [a] (X i).env = [(false, eval a (X i).env)] := by exact fun _ => rfl) : QIX K X false tg (.Call (.Name "range" p) [a] [] pos) (iR1 fa) :=
  let ⟨_, a1, a2⟩ := ha.ex; ⟨_, fun i => pi_range1 (hg i) (hm i) (a1 i) (hs i), simIR1X a2⟩
/-- y = [.. for .. in .. for .. in range(..)] -/
theorem slcG2 {wk wk1 : Bool} {elt : Expr} {scope : Scope} {py : Pos} {w w1 : T3I} {g3 g31 : T3G} {te : T3E} {ix ix1 : List Nat} (n : Nat) (own : List (Str × Nat)) (vs1 : List Nat) (hi : QI K X wk tg iter w) (hg : QG K (Blk X scope) wk tg g3 ix) (ht : QTs K (Blk X scope) ifs ft)
    (hi1 : QIX K (Blk X scope) wk1 tg1 iter1 w1) (hg1 : QG K (Blk X scope) wk1 tg1 g31 ix1) (ht1 : QTs K (Blk X scope) ifs1 ft1) (he : QE K (Blk X scope) elt te)
    (ok : ∀ i, BlkOk (X i).N (X i).env.scope scope own) (hN : ∀ i, (X i).N[n]? = some y) (hyl : ∀ i, (X i).env.scope.names.lookup y = some .local)
    (hsw : ∀ i, swapsWith (.ListComp elt [⟨tg, iter, ifs, 0⟩, ⟨tg1, iter1, ifs1, 0⟩] scope pos) (some (.Name y py)) spos.line (X i).env = pure true) (hc : ∀ i, (X i).calm = true) (hnd : ∀ i, (X i).N.Nodup)
    (hix : ix.all (fun i => (own.map (·.2)).contains i) = true) (hix1 : ix1.all (fun i => vs1.contains i) = true) (hv : ∀ i ∈ vs1, i ∈ own.map (·.2)) (hs : ∀ i x, foldedSetIterable iter (X i).env x = pure x) (hs1 : ∀ env x, foldedSetIterable iter1 env x = pure x) :
    ∃ t, (∀ i, PS (X i) (.Assign [.Name y py] (.ListComp elt [⟨tg, iter, ifs, 0⟩, ⟨tg1, iter1, ifs1, 0⟩] scope pos) spos) (tAsg t (gName n))) ∧ SimEO K t (oLc2 w g3 ft w1 g31 ft1 te (own.map (·.2)) vs1) :=
  let ⟨_, a1, a2⟩ := hi.ex; let ⟨_, b1, b2⟩ := hg.ex; let ⟨_, c1, c2⟩ := ht.ex; let ⟨_, d1, d2⟩ := he.ex
  let ⟨_, e1, e2⟩ := hi1.ex; let ⟨_, f1, f2⟩ := hg1.ex; let ⟨_, g1, g2⟩ := ht1.ex
  ⟨_, fun i => ps_setLc2 (hc i) (hnd i) (hN i) (hyl i) (hsw i) (a1 i) (ok i) hv (fun s H C cl fp => b1 (i, s, H, C, cl, fp)) (fun s H C cl fp => c1 (i, s, H, C, cl, fp)) (fun s H C cl fp => e1 (i, s, H, C, cl, fp)) (fun s H C cl fp => f1 (i, s, H, C, cl, fp)) (fun s H C cl fp => g1 (i, s, H, C, cl, fp)) (fun s H C cl fp => d1 (i, s, H, C, cl, fp)) (hs i) hs1, simLc2 a2 b2 c2 e2 f2 g2 d2 hix hix1⟩
theorem slc2 {wk wk1 : Bool} {elt : Expr} {scope : Scope} {py : Pos} {w w1 : T3I} {g3 g31 : T3G} {te : T3E} {ix ix1 : List Nat} (n : Nat) (own : List (Str × Nat)) (vs1 : List Nat) (hi : QI K X wk tg iter w) (hg : QG K (Blk X scope) wk tg g3 ix) (ht : QTs K (Blk X scope) ifs ft)
    (hi1 : QIX K (Blk X scope) wk1 tg1 iter1 w1) (hg1 : QG K (Blk X scope) wk1 tg1 g31 ix1) (ht1 : QTs K (Blk X scope) ifs1 ft1) (he : QE K (Blk X scope) elt te)
    (ok : ∀ i, BlkOk (X i).N (X i).env.scope scope own) (hsw : ∀ i, swapsWith (.ListComp elt [⟨tg, iter, ifs, 0⟩, ⟨tg1, iter1, ifs1, 0⟩] scope pos) (some (.Name y py)) spos.line (X i).env = pure true) (hN : ∀ i, (X i).N[n]? = some y := by exact fun _ => rfl) (hyl : ∀ i, (X i).env.scope.names.lookup y = some .local := by exact fun _ => rfl)
    (hc : ∀ i, (X i).calm = true := by exact fun _ => rfl) (hnd : ∀ i, (X i).N.Nodup := by exact fun _ => by decide)
    (hix : ix.all (fun i => (own.map (·.2)).contains i) = true := by rfl) (hix1 : ix1.all (fun i => vs1.contains i) = true := by rfl) (hv : ∀ i ∈ vs1, i ∈ own.map (·.2) := by decide) (hs : ∀ i x, foldedSetIterable iter (X i).env x = pure x := by exact fun _ _ => rfl) (hs1 : ∀ env x, foldedSetIterable iter1 env x = pure x := by exact fun _ _ => rfl) :
    QS K X (.Assign [.Name y py] (.ListComp elt [⟨tg, iter, ifs, 0⟩, ⟨tg1, iter1, ifs1, 0⟩] scope pos) spos) (sAsg (eShr (oLc2 w g3 ft w1 g31 ft1 te (own.map (·.2)) vs1)) (gN n)) :=
  let ⟨_, h1, h2⟩ := slcG2 n own vs1 hi hg ht hi1 hg1 ht1 he ok hN hyl hsw hc hnd hix hix1 hv hs hs1; ⟨_, h1, simAsg (simShr h2) (simGN n)⟩
end
end L3

set_option Elab.async false
set_option linter.all false
set_option maxRecDepth 100000
namespace L3
open PySem PySem.Spec L2
/-! ### statements that may raise -/
/-- what is wished of an exception: its class, its fields (the last set first), the slots -/
abbrev E3X := Addr → List (Str × D) → En → Prop
structure KX (F : Fr) (X3 : E3X) (W : WX) : Prop where
  ex : ∀ (U : US) (ρ : En) (σ : St) (H : Hp) (C dd : Addr) (fs : List (Str × D)) (gs : List (Str × V)), Rel F U ρ σ H → H dd = some (.xd gs) → ¬ U dd → RpF F.K H U fs gs → X3 C fs ρ → W (.ref C) (some dd) σ H
def SimSX (K : PySem.W.Frag) (t2 : WX → TS) (t3 : E3X → T3S) : Prop :=
  ∀ (F : Fr) (U : US) (ρ : En) (σ : St) (H : Hp) (X3 : E3X) (W : WX) (D3 : E3) (D2 : Ends), F.K = K → KX F X3 W → Rel F U ρ σ H → t3 X3 D3 ρ → KS F D3 D2 → t2 W D2 σ H
def SimEX (K : PySem.W.Frag) (t2 : WX → TE) (t3 : E3X → T3E) : Prop :=
  ∀ (F : Fr) (U : US) (ρ : En) (σ : St) (H : Hp) (X3 : E3X) (W : WX) (Q3 : Rs → En → Prop) (Q2 : VK), F.K = K → KX F X3 W → Rel F U ρ σ H → t3 X3 ρ Q3 → KE F U ρ σ H Q3 Q2 → t2 W σ H Q2
def E3X.under (X3 : E3X) (ρ0 : En) (r : Rs) : E3X := fun C fs ρ => okL ρ0 r ρ ∧ X3 C fs (unlockE ρ0 r ρ)
section
variable {F : Fr} {U U2 : US} {ρ ρ' ρ2 : En} {σ σ2 : St} {H H' H2 : Hp} {K : PySem.W.Frag}
theorem KX.under {X3 : E3X} {W : WX} (k : KX F X3 W) (R : Rel F U ρ σ H) (r : Rs) : KX (F.at U (lockE ρ r) σ H) (X3.under ρ r) W :=
  ⟨fun U' ρ' σ' H' C dd fs gs R' h1 h2 h3 q => k.ex _ _ _ _ C dd fs gs (loopOut R r R' q.1) h1 h2 h3 q.2⟩
theorem simLiftS {t : TS} {f : T3S} (h : SimS K t f) : SimSX K (fun _ => t) (fun _ => f) := fun F U ρ σ H X3 W D3 D2 e kx R q k => h F U ρ σ H D3 D2 e R q k
theorem simLiftE {t : TE} {f : T3E} (h : SimE K t f) : SimEX K (fun _ => t) (fun _ => f) := fun F U ρ σ H X3 W Q3 Q2 e kx R q k => h F U ρ σ H Q3 Q2 e R q k
theorem simSeqX {t u : WX → TS} {f g : E3X → T3S} (h : SimSX K t f) (h' : SimSX K u g) : SimSX K (fun W => tSeq (t W) (u W)) (fun X3 => sSeq (f X3) (g X3)) := fun F U ρ σ H X3 W D3 D2 e kx R q k =>
  h F U ρ σ H X3 W { D3 with nx := g X3 D3 } { D2 with nx := u W D2 } e kx R q ⟨fun U ρ σ H R q => h' F U ρ σ H X3 W D3 D2 e kx R q k, k.bk, k.ct, k.rt, k.ro, k.rf⟩
theorem simIfX {c : TT} {t u : WX → TS} {c3 : T3T} {f g : E3X → T3S} (hc : SimT K c c3) (h : SimSX K t f) (h' : SimSX K u g) : SimSX K (fun W => tIfS c (t W) (u W)) (fun X3 => sIf c3 (f X3) (g X3)) := fun F U ρ σ H X3 W D3 D2 e kx R q k =>
  hc F U ρ σ H _ _ e R q fun b ρ1 H1 R1 s1 h1 => by
    cases b with
    | true => exact h F U ρ1 σ H1 X3 W D3 D2 e kx R1 h1 k
    | false => exact h' F U ρ1 σ H1 X3 W D3 D2 e kx R1 h1 k
theorem simWhileX {c : TT} {tb : WX → TS} {c3 : T3T} {tb3 : E3X → T3S} (hc : SimT K c c3) (hb : SimSX K tb tb3) : SimSX K (fun W => tWhile c (tb W)) (fun X3 => sWhile c3 (tb3 X3)) := by
  intro F U ρ σ H X3 Wx D3 D2 e kx R q k
  obtain ⟨W, ⟨m, w⟩, q⟩ := q
  refine ⟨fun m σ' H' => ∃ U' ρ', Rel F U' ρ' σ' H' ∧ W m ρ', ⟨m, U, ρ, R, w⟩, ?_⟩
  rintro m σ' H' ⟨U', ρ', R', w'⟩
  refine hc F U' ρ' σ' H' _ _ e R' (q m ρ' w') fun b ρ1 H1 R1 s1 h1 => ?_
  cases b with
  | false => exact k.nx _ _ _ _ R1 h1
  | true =>
    refine ⟨fun σ2 H2 => ∃ m', m' < m ∧ ∃ U2 ρ2, Rel F U2 ρ2 σ2 H2 ∧ W m' ρ2, fun σ2 H2 ⟨m', hm, z⟩ => ⟨m', hm, z⟩, ?_⟩
    refine hb F U' ρ1 σ' H1 X3 Wx _ _ e kx R1 h1 ⟨fun U4 ρ4 σ4 H4 R4 ⟨m', hm, z⟩ => ⟨m', hm, U4, ρ4, R4, z⟩, k.nx, fun U4 ρ4 σ4 H4 R4 ⟨m', hm, z⟩ => ⟨m', hm, U4, ρ4, R4, z⟩, k.rt, k.ro, k.rf⟩
def sForX (w : T3I) (g : T3G) (tb : E3X → T3S) : E3X → T3S := fun X3 E ρ => w ρ fun it ρ1 => forL g (tb (X3.under ρ1 it.r)) (E.under ρ1 it.r) it.items (lockE ρ1 it.r)
theorem simForX {wk : Bool} {w : TI} {g : TG} {tb : WX → TS} {w3 : T3I} {g3 : T3G} {tb3 : E3X → T3S} {ix : List Nat} (hw : SimI K wk w w3) (hg : SimG K wk g g3 ix) (hb : SimSX K tb tb3) : SimSX K (fun W => tFor w g (tb W)) (sForX w3 g3 tb3) := by
  intro F U ρ σ H X3 Wx D3 D2 e kx R q k
  refine hw F U ρ σ H _ _ e R q fun J it ρ1 H1 R1 s1 jok h1 => ?_
  have Rf := loopIn R1 it.r
  have ku := k.under R1 it.r
  have kxu := kx.under R1 it.r
  refine ⟨fun i m σ' H' => m = it.items.length - i ∧ i ≤ it.items.length ∧ ∃ U' ρ', Rel (F.at U (lockE ρ1 it.r) σ H1) U' ρ' σ' H' ∧ forL g3 (tb3 (X3.under ρ1 it.r)) (D3.under ρ1 it.r) (it.items.drop i) ρ', ⟨_, rfl, Nat.zero_le _, U, _, Rf, h1⟩, ?_⟩
  rintro i m σ' H' ⟨rfl, hi, U', ρ', R', q'⟩
  have eK : (F.at U (lockE ρ1 it.r) σ H1).K = K := e
  obtain ⟨j1, j2⟩ := jok _ U' ρ' σ' H' eK R' R'.pres0 R'.keep i
  by_cases hl : i < it.items.length
  · right
    obtain ⟨d, hd⟩ : ∃ d, it.items[i]? = some d := ⟨_, List.getElem?_eq_getElem hl⟩
    have ed : it.items.drop i = d :: it.items.drop (i + 1) := by
      rw [List.drop_eq_getElem_cons hl]
      congr 1
      rw [List.getElem?_eq_getElem hl] at hd
      exact Option.some.inj hd
    rw [ed] at q'
    obtain ⟨g1, g2⟩ := j1 d hd
    refine ⟨g1, fun σ2 H2 => ∃ U2 ρ2, Rel (F.at U (lockE ρ1 it.r) σ H1) U2 ρ2 σ2 H2 ∧ forL g3 (tb3 (X3.under ρ1 it.r)) (D3.under ρ1 it.r) (it.items.drop (i + 1)) ρ2, fun σ2 H2 z => ⟨it.items.length - (i + 1), by omega, rfl, hl, z⟩, fun x H3 hy => ?_⟩
    obtain ⟨ex, rx⟩ := g2 x H3 hy
    rw [← eK] at rx
    refine hg _ U' ρ' σ' H3 d x _ _ eK (R'.ext ex) rx q' fun ρ3 σ3 R3 _ _ q3 => ?_
    refine hb _ U' ρ3 σ3 H3 _ Wx _ _ eK kxu R3 q3 ⟨fun U4 ρ4 σ4 H4 R4 q4 => ⟨U4, ρ4, R4, q4⟩, ku.nx, fun U4 ρ4 σ4 H4 R4 q4 => ⟨U4, ρ4, R4, q4⟩, ku.rt, ku.ro, ku.rf⟩
  · left
    have e2 : i = it.items.length := by omega
    subst e2
    rw [List.drop_length] at q'
    exact ⟨j2 (Nat.le_refl _), ku.nx _ _ _ _ R' q'⟩
theorem simDropX {t : WX → TE} {f : E3X → T3E} (h : SimEX K t f) : SimSX K (fun W => tDrop (t W)) (fun X3 => sDrop (f X3)) := fun F U ρ σ H X3 W D3 D2 e kx R q k =>
  h F U ρ σ H X3 W _ _ e kx R q fun r v ρ1 H1 R1 s1 q1 h1 => k.nx U ρ1 σ H1 R1 h1
theorem simAsgX {t : WX → TE} {f : E3X → T3E} {g : TG} {g3 : T3G} {is : List Nat} (h : SimEX K t f) (hg : SimG K false g g3 is) : SimSX K (fun W => tAsg (t W) g) (fun X3 => sAsg (f X3) g3) := fun F U ρ σ H X3 W D3 D2 e kx R q k =>
  h F U ρ σ H X3 W _ _ e kx R q fun r v ρ1 H1 R1 s1 q1 h1 => by
    cases r with
    | sl i => exact h1.elim
    | bx _ _ _ => exact h1.elim
    | val d => exact hg F U ρ1 σ H1 d v _ _ e R1 (.inl q1) h1 fun ρ2 σ2 R2 _ _ q2 => k.nx U ρ2 σ2 H1 R2 q2
/-- return f(..), the result shared -/
def sRetV (f : T3E) : T3S := fun D ρ => f ρ fun r ρ1 => match r with
  | .val d => D.rt d ρ1
  | _ => False
theorem simRetX {t : WX → TE} {f : E3X → T3E} (h : SimEX K t f) : SimSX K (fun W => tRet (t W)) (fun X3 => sRetV (f X3)) := fun F U ρ σ H X3 W D3 D2 e kx R q k =>
  h F U ρ σ H X3 W _ _ e kx R q fun r v ρ1 H1 R1 s1 q1 h1 => by
    cases r with
    | val d => exact k.rt U ρ1 σ H1 d v R1 q1 h1
    | bx i f b => exact h1.elim
    | sl i => exact h1.elim

/-! ### defs that may raise -/
abbrev SX := List D → (D → List D → Prop) → (D → List D → Prop) → (Addr → List (Str × D) → List D → Prop) → Prop
def LiftX (K : PySem.W.Frag) (ms : List Md) (sp : SX) : Sp := fun vs H Q E => ∃ (U : US) (ds : List D) (QR QO : D → List D → Prop) (QX : Addr → List (Str × D) → List D → Prop), ArgsOk K H U ms ds vs ∧ sp ds QR QO QX ∧
  (∀ v H' U' d ds', After K H U ms ds vs H' U' ds' → Rp K H' U' d v → QR d ds' → Q v H') ∧
  (∀ a H' U' d ds', After K H U ms ds vs H' U' ds' → TopW K H' U' d a → U' a → H a = none → QO d ds' → Q (.ref a) H') ∧
  (∀ C dd fs gs H' U' ds', After K H U ms ds vs H' U' ds' → H' dd = some (.xd gs) → ¬ U' dd → RpF K H' U' fs gs → QX C fs ds' → E (.ref C) (some dd) H')
def endX (ms : List Md) (ds : List D) (QX : Addr → List (Str × D) → List D → Prop) : E3X := fun C fs ρ => wo (fin ms ds ρ) fun ds' => QX C fs ds'
theorem body3X {t2 : WX → TS} {t3 : E3X → T3S} {ms : List Md} {sp : SX} {N : List Str} {n : Nat} (hs : SimSX K t2 t3) (hn : N.length = ms.length + n) (hb : ∀ ds QR QO QX, sp ds QR QO QX → ds.length = ms.length → t3 (endX ms ds QX) (endE ms ds QR QO) (startE n ms ds)) :
    ∀ vs H Q E, LiftX K ms sp vs H Q E → t2 (fun cls d _ H => E cls d H) { nx := fun _ H' => Q .non H', rt := Q } (L2.start N vs) H := by
  intro vs H Q E ⟨U, ds, QR, QO, QX, A, h, h1, h2, h3⟩
  have R := Rel.enter (N := N) (n := n) A (by rw [hn, A.l1])
  have kx : KX (frE K H U (startE n ms ds) (L2.start N vs)) (endX ms ds QX) (fun cls d _ H => E cls d H) := ⟨fun U' ρ' σ' H' C dd fs gs R' q1 q2 q3 q => by
    obtain ⟨ds', e, q⟩ := wo_out q
    exact h3 C dd fs gs H' U' ds' (R'.leave A e) q1 q2 q3 q⟩
  refine hs _ U _ _ H (endX ms ds QX) _ (endE ms ds QR QO) _ rfl kx R (hb ds QR QO QX h (A.l2.trans A.l1.symm)) ⟨fun U' ρ' σ' H' R' q => ?_, fun _ _ _ _ _ q => q.elim, fun _ _ _ _ _ q => q.elim, fun U' ρ' σ' H' d v R' rp q => ?_, fun U' ρ' σ' H' d a i R' e1 e2 q => ?_, fun U' ρ' σ' H' d a R' f q => ?_⟩
  · obtain ⟨ds', e, q⟩ := wo_out q
    exact h1 .non H' U' .non ds' (R'.leave A e) rp_non q
  · obtain ⟨ds', e, q⟩ := wo_out q
    exact h1 v H' U' d ds' (R'.leave A e) rp q
  · have q : (match noPab ms with | true => wo (fin ms ds ρ') fun ds' => QO d ds' | false => False) := q
    cases np : noPab ms with
    | false => rw [np] at q; exact q.elim
    | true =>
      rw [np] at q
      obtain ⟨ds', e, q⟩ := wo_out q
      obtain ⟨b, eb, u, t⟩ := R'.slot i _ _ e1 e2
      cases eb
      refine h2 a H' U' d ds' (R'.leave A e) t u ?_ q
      rcases R'.new a (Own.root e1 rfl e2) with z | z
      · exfalso
        obtain ⟨j, m, dj, v, k1, k2, k3, k4⟩ := own_start A z
        have w : m.isW = true := sl_isW.symm.trans k4.1
        cases m <;> first | (cases w; done) | exact noPab_at np k1 | skip
        have hv : v = .ref a := by
          rcases k4.2 with z | z
          · cases z; rfl
          · cases z
        subst hv
        have hl : j < ds'.length := by
          have := (List.getElem?_eq_some_iff.mp k2).1
          rw [fin_len e]; exact this
        have hp := fin_par e k1 rfl (List.getElem?_eq_getElem hl)
        obtain ⟨_, el⟩ := R'.lock j _ _ hp rfl
        have el : σ'[j]? = some (some (.ref a)) := el.trans (start_arg k3)
        have := R'.inj i j _ _ _ _ a e1 hp e2 el ⟨rfl, .inl rfl⟩ ⟨rfl, .inl rfl⟩
        subst this
        rw [e1] at hp; cases hp
      · exact z
  · have q : (match noPab ms with | true => wo (fin ms ds ρ') fun ds' => QO d ds' | false => False) := q
    cases np : noPab ms with
    | false => rw [np] at q; exact q.elim
    | true =>
      rw [np] at q
      obtain ⟨ds', e, q⟩ := wo_out q
      exact h2 a H' U' d ds' (R'.leave A e) f.top f.u f.new q
/-- f(..), which may raise -/
def eCallX (ms : List Md) (sp : SX) (g : T3A) : E3X → T3E := fun X3 ρ Q => g ρ fun rs ρ1 => apart ms rs = true ∧ wo (argsD ms rs ρ1) fun ds => sp ds (fun d ds' => Q (.val d) (updE ms rs ds' ρ1)) (fun d ds' => Q (.val d) (updE ms rs ds' ρ1)) fun C fs ds' => X3 C fs (updE ms rs ds' ρ1)
theorem callX {ms : List Md} {sp : SX} {rs : List Rs} {vs : List V} {ds : List D} {ρ1 : En} {H1 : Hp} {Q3 : Rs → En → Prop} {Q2 : VK} {X3 : E3X} {W : WX} (np : noPab ms = true) (kx : KX F X3 W) (R : Rel F U ρ σ H) (s1 : Stp ρ σ H ρ1 H1) (R1 : Rel F U ρ1 σ H1) (q1 : RVs F U σ H1 rs vs) (ap : apart ms rs = true) (ed : argsD ms rs ρ1 = some ds)
    (h1 : sp ds (fun d ds' => Q3 (.val d) (updE ms rs ds' ρ1)) (fun d ds' => Q3 (.val d) (updE ms rs ds' ρ1)) fun C fs ds' => X3 C fs (updE ms rs ds' ρ1)) (k : KE F U ρ σ H Q3 Q2) : LiftX F.K ms sp vs H1 Q2 (WE W σ) := by
  obtain ⟨AO, own⟩ := args_ok R1 q1 ed ap
  refine ⟨U, ds, _, _, _, AO, h1, fun v H' U' d ds' A rp q => ?_, fun a H' U' d ds' A t u nw q => ?_, fun C dd fs gs H' U' ds' A e1 e2 e3 q => ?_⟩
  · obtain ⟨R2, S2⟩ := R1.afterS q1 ed ap (sameB_no np) A
    have up := A.upA AO (sameB_no np)
    have R3 : Rel F U (updE ms rs ds' ρ1) σ H' := R2.shrink up R.up fun a z => R1.ownU (S2.own a z)
    refine k (.val d) v _ _ R3 (s1.trans S2) ?_ q
    exact Rp.pres (fun a o h n => ⟨h, fun z => n (up a z)⟩) d v rp
  · obtain ⟨R2, S2⟩ := R1.afterS q1 ed ap (sameB_no np) A
    have up := A.upA AO (sameB_no np)
    have R3 : Rel F U (updE ms rs ds' ρ1) σ H' := R2.shrink up R.up fun a z => R1.ownU (S2.own a z)
    refine k (.val d) (.ref a) _ _ R3 (s1.trans S2) ?_ q
    have p : Pres H' U' H' U := fun a o h n => ⟨h, fun z => n (up a z)⟩
    have nU : ¬ U a := fun z => by
      obtain ⟨o, ho⟩ := R1.tr a z
      rw [nw] at ho; cases ho
    exact rp_of_top (t.pres p fun _ h => h) nU
  · exact kx.ex U' _ σ H' C dd fs gs (R1.after q1 ed ap A).1 e1 e2 e3 q
theorem simCallX {ms : List Md} {sp : SX} {u : TA} {g : T3A} (np : noPab ms = true) (h : SimA K u g) : SimEX K (fun W => tCallS (LiftX K ms sp) (WE W) u) (eCallX ms sp g) := by
  intro F U ρ σ H X3 W Q3 Q2 e kx R q k
  refine h F U ρ σ H _ _ e R q fun rs vs ρ1 H1 R1 s1 q1 ⟨ap, h1⟩ => ?_
  obtain ⟨ds, ed, h1⟩ := wo_out h1
  subst e
  exact callX np kx R s1 R1 q1 ap ed h1 k
end
end L3

set_option Elab.async false
set_option linter.all false
set_option maxRecDepth 100000
/-! several clauses 'except C as n' -/
namespace L2
open PySem PySem.Spec PyProof.Rows
def wManyA (K : PySem.W.Frag) (Wout : WX) (D : Ends) : List (Value × Nat × (Addr → Value → Option Addr → TS)) → WX
  | [] => Wout
  | (c, i, ts) :: r => fun cls d σ H => ∃ b, PySem.W.exmOne K cls c = some b ∧ (b = true → ∀ a, H a = none → ts a cls d { nx := fun σ' H' => D.nx (σ'.set i none) H', rt := D.rt, bk := fun σ' H' => D.bk (σ'.set i none) H', ct := fun σ' H' => D.ct (σ'.set i none) H' } (σ.set i (some (.ref a))) H) ∧ (b = false → wManyA K Wout D r cls d σ H)
inductive HdsA (X : Cx) : List ExceptHandler → List (Value × Nat × (Addr → Value → Option Addr → TS)) → Prop
  | nil : HdsA X [] []
  | cons {x n : Str} {c : Value} {i : Nat} {ts : Addr → Value → Option Addr → TS} {b₀ : Stmt} {suite : List Stmt} {np pos' : Pos} {hds : List ExceptHandler} {l : List (Value × Nat × (Addr → Value → Option Addr → TS))} (hc : Names X x c) (hi : X.N[i]? = some n) (hln : X.env.kindOf n = some .local)
      (hsu : ∀ (a : Addr) (oe : Obj) (cls : Value) (d : Option Addr) (pn : List (Addr × Obj)), Zc cls d oe → (∃ vs, oe.data = .fields vs) → PSs (X.suite a ((a, oe) :: pn)) (b₀ :: suite) (ts a cls d)) (r : HdsA X hds l) :
      HdsA X (.ExceptHandler (some (.Name x np)) (some n) (b₀ :: suite) pos' :: hds) ((c, i, ts) :: l)
section
variable {X : Cx} {body : List Stmt} {h₀ : ExceptHandler} {hds : List ExceptHandler} {l : List (Value × Nat × (Addr → Value → Option Addr → TS))} {pos : Pos} {tb : WX → TS} {Wout : WX}
theorem ps_try_manyA (hs : X.stack = X.env :: X.outer) (hf : X.env.frame = some X.env.locals) (hN : X.N.Nodup) (tk : Takes X Wout)
    (hb : ∀ (W : WX) (pn : List (Addr × Obj)) (xe : Value → Shared → Prop), Takes (X.tr pn xe) W → PassesOwn (model X.prog X.w) X.A X.env xe → PSs (X.tr pn xe) body (tb W))
    (hh : HdsA X (h₀ :: hds) l) : PS X (.Try body (h₀ :: hds) [] [] pos) (fun D σ H => tb (wManyA X.K Wout D l) D σ H) := by
  refine ⟨fun pins s σ H D I h => ?_⟩
  have ok := I.ok
  have hfr : X.A.frames = some (X.env :: X.outer) := by rw [ok.frames, hs]
  refine wpAny_Try_except ?_
  refine wpAny_mono ((hb (wManyA X.K Wout D l) (X.pn ++ pins) (fun e s₁ => wpAny (model X.prog X.w) X.A (noteFrame e X.env) (fun _ s₂ => wpAny (model X.prog X.w) X.A (setFlight e none) (fun _ s₃ =>
    wpAny (model X.prog X.w) X.A (handleBy e X.env (h₀ :: hds)) (SP X pins D) X.xe s₃) X.xe s₂) X.xe s₁) (fun u s' xx => ?_) PassesOwn.looking).run [] s σ H D (I.toTry _) h) (fun f s1 hsp => ?_) (fun e s1 he => he)
  · obtain ⟨a, B, sI, pins', σ', H', cls, d, rfl, J', nb, up, sky, na, os, ag, w⟩ := xx
    have J : Inv X pins σ' H' sI := J'.ofTry ok
    have sky' : Sky B (X.env :: X.outer) a (Zc cls d) X.env.locals s'.heap := by rw [← hs]; exact sky
    show wpAny (model X.prog X.w) X.A (noteFrame (.ref a) X.env) _ _ _
    refine Sky.land Zc.steady hfr hf sky' fun h3 fl3 up3 => ?_
    have J3 : Inv X pins σ' H' { s' with heap := h3 } := J.landed nb fl3.1 (up.trans up3) os ag
    obtain ⟨oe3, vs3, he3, hz3, hd3⟩ := fl3.there
    have notFr : ∀ {h : Heap} {o : Obj} {vs : Array Value}, h.FunFrames B (X.env :: X.outer) → h.get? a = some o → o.data = .fields vs → a ∉ frs (X.env :: X.outer) := fun {h o vs} ff e dd hm => by
      obtain ⟨_, o', e', hnf⟩ := ff.mem hm
      rw [e] at e'; cases e'
      exact hnf _ dd
    have nfr := notFr fl3.2.2.1 he3 hd3
    have nL : a ≠ X.env.locals := fun z => nfr (List.mem_filterMap.mpr ⟨X.env, List.mem_cons_self, by rw [hf, z]⟩)
    have nF : a ∉ X.fs := fun hm => by
      obtain ⟨e, he, q⟩ := List.mem_filterMap.mp hm
      exact nfr (List.mem_filterMap.mpr ⟨e, List.mem_cons_of_mem _ he, q⟩)
    have S3 := J3.suite he3 hd3 na nL nF
    have go : ∀ {hds' : List ExceptHandler} {l' : List (Value × Nat × (Addr → Value → Option Addr → TS))}, HdsA X hds' l' → wManyA X.K Wout D l' cls d σ' H' →
        wpAny (model X.prog X.w) X.A (handleBy (.ref a) X.env hds') (SP X pins D) X.xe { s' with heap := h3 } := by
      intro hds' l' hk
      induction hk with
      | nil =>
        intro w
        refine wpAny_handleBy_nil ?_
        obtain ⟨k1, k2, k3, oe, vs, T, oT, ts', he, hz, hd, h1, hr⟩ := id fl3
        unfold PySem.passOn
        refine wpAny_bind (wpAny_field he hd h1 ?_)
        rw [if_neg (show ¬ ((Value.ref T == Value.none) = true) from by simp)]
        have fin : wpAny (model X.prog X.w) X.A (setFlight (.ref a) X.env.frame) (fun _ s4 => wpAny (model X.prog X.w) X.A (throw (.ref a) : Sem Flow) (SP X pins D) X.xe s4) X.xe { s' with heap := h3 } := by
          rw [hf]
          refine HandSPX.setFlight_upZ fl3 fun h4 hh4 up4 => wpAny_throw (tk _ _ ?_)
          exact ⟨a, B, sI, pins, σ', H', cls, d, rfl, J, nb, (up.trans up3).trans up4, .inr (.inr (by rw [hs]; exact hh4)), na, os, ag, w⟩
        first
          | exact wpAny_bind (wpAny_pure (wpAny_bind fin))
          | exact wpAny_bind fin
      | @cons x n c i ts b₀ suite np pos' hds2 l2 hc hi hln hsu r ih =>
        intro w
        have hloc : Loc X.env.scope n := .inl hln
        obtain ⟨b, hb1, hyes, hno⟩ := w
        refine wpAny_handleBy_cons (codeAny_handlers_test ?_) (by intro q; cases q)
        have LT : PySem.W.Looks (model X.prog X.w) h3 (typeOf (.ref a)) cls := fun A Q E s k q => wpAny_typeOf_ref (k _ _ he3) (by rw [hz3.1]; exact q)
        have LM := PySem.W.exm_one (M := model X.prog X.w) (J3.kIn) LT hb1
        have test : ∀ {Q : Value → Shared → Prop} {E : Value → Shared → Prop}, Q c { s' with heap := h3 } → wpAny (model X.prog X.w) (X.A.mark (some (.ref a))) (eval (.Name x np) X.env) Q E { s' with heap := h3 } := fun {Q E} q => by
          obtain ⟨hg, hdbg, hm | ⟨hm, hv, hnn⟩⟩ := hc
          · exact ld_glob (X := X.suite a ((a, oe3) :: (X.pn ++ pins))) S3 hg hm q hdbg
          · exact ld_blt (X := X.suite a ((a, oe3) :: (X.pn ++ pins))) S3 hg hm hv q hnn hdbg
        refine test (LM.here ?_)
        cases b with
        | true =>
          refine codeAny_handlers_suite_as ?_
          refine HandSPX.lands_againZ fl3 fun h4 fl4 up4 => ?_
          have J4 : Inv X pins σ' H' { s' with heap := h4 } := J.landed nb fl4.1 ((up.trans up3).trans up4) os ag
          obtain ⟨oe4, vs4, he4, hz4, hd4⟩ := fl4.there
          have S4 := J4.suite he4 hd4 na nL nF
          refine store_ok (X := X.suite a ((a, oe4) :: (X.pn ++ pins))) (v := .ref a) S4 hN hi hloc rfl (fun s5 S5 => ?_) (.inr hln)
          refine wpAny_mono ((hsu a oe4 cls d (X.pn ++ pins) hz4 ⟨_, hd4⟩).run [] s5 _ H' _ S5 (hyes rfl a na)) (fun f s6 hsp => ?_) (fun _ _ z => False.elim z)
          have end_ : ∀ {σ6 : St} {H6 : Hp} {Q : Shared → Prop}, Inv (X.suite a ((a, oe4) :: (X.pn ++ pins))) [] σ6 H6 s6 → (∀ s7, Inv X pins (σ6.set i none) H6 s7 → Q s7) →
              wpAny (model X.prog X.w) X.A (do bindName X.env n .none; unbindBehindTheSuite X.env n pos') (fun _ s7 => Q s7) X.xe s6 := fun {σ6 H6 Q} S6 hq => gone_ok (S6.unsuite ok) hN hi hln hq
          cases f with
          | next =>
            obtain ⟨σ6, H6, S6, q6⟩ := hsp
            exact end_ S6 fun s7 J7 => ⟨_, _, J7, q6⟩
          | brk =>
            obtain ⟨σ6, H6, S6, q6⟩ := hsp
            exact end_ S6 fun s7 J7 => ⟨_, _, J7, q6⟩
          | cont =>
            obtain ⟨σ6, H6, S6, q6⟩ := hsp
            exact end_ S6 fun s7 J7 => ⟨_, _, J7, q6⟩
          | ret u =>
            obtain ⟨v6, σ6, H6, S6, r6, q6⟩ := hsp
            exact end_ S6 fun s7 J7 => ⟨_, _, _, J7, r6, q6⟩
        | false =>
          show wpAny _ X.A (handleBy (.ref a) X.env hds2) _ _ _
          exact ih (hno rfl)
    exact go hh w
  · cases f with
    | next =>
      obtain ⟨σ', H', J', q⟩ := hsp
      exact wpAny_execs_nil ⟨σ', H', J'.ofTry ok, q⟩
    | brk =>
      obtain ⟨σ', H', J', q⟩ := hsp
      exact ⟨σ', H', J'.ofTry ok, q⟩
    | cont =>
      obtain ⟨σ', H', J', q⟩ := hsp
      exact ⟨σ', H', J'.ofTry ok, q⟩
    | ret u =>
      obtain ⟨v, σ', H', J', r, q⟩ := hsp
      exact ⟨v, σ', H', J'.ofTry ok, r, q⟩
end
end L2

set_option Elab.async false
set_option linter.all false
set_option maxRecDepth 100000
set_option maxHeartbeats 2000000
/-! isinstance of a caught exception that has fields -/
namespace PySem.W
open PySem PySem.Spec PySem.Calls PyProof.Rows
section
variable {prog : Program} {w : World} {A : Around} {E : Value → Shared → Prop} {s : Shared} {K : Frag} {x D : Addr} {ox : Obj} {od : Option Obj}
theorem findObj_dataX {C : Addr} {name : Str} {a g : Value} (hc : (clsIn K C).isSome = true) (ha : findIn K (.ref C) name = some (some a)) (hg : specialIn K a "__get__" = some (some g)) (ht : takesIn K a = some true) : findObj K C od name = some (.bind g a) := by
  obtain ⟨cd, hc⟩ := Option.isSome_iff_exists.mp hc
  unfold findObj
  rw [hc, Option.bind_some, ha, Option.bind_some]
  cases od <;> simp [hg, ht]
theorem kin_classX {Q : Option Value → Shared → Prop} (hga : findIn K (.ref D) "__getattribute__" = some (some (.builtin "BaseException.__getattribute__"))) (hgt : findIn K (.ref D) "__getattr__" = some none) (hsub : subIn K (.ref D) (.type "BaseException") = some true)
    (hdct : hasDictIn K D = true) (ha : findIn K (.ref D) "__class__" = some (some (.builtin "object.__class__")))
    (hn : specialIn K (.builtin "object.__class__") "__get__" = some (some (.builtin "getset_descriptor.__get__"))) (htk : takesIn K (.builtin "object.__class__") = some true) (hm : mroIn K D (.type "object") = some true)
    (X : K.In s.heap) (I : InstAt s.heap x ox D od) (h : Q (some (.ref D)) { s with toks := s.toks + 1 }) : wpAny (model prog w) A (getAttr? (.ref x) "__class__") Q E s := by
  have hf : findObj K D od "__class__" = some (.bind (.builtin "getset_descriptor.__get__") (.builtin "object.__class__")) := findObj_dataX (by obtain ⟨cd, hc, _⟩ := any_some hdct; rw [hc]; rfl) ha hn htk
  obtain ⟨hp, g, d, t, os⟩ := s
  have L0 := I.type (M := model prog w)
  have L1 := looks_findIn (M := model prog w) X hga
  have L2 := looks_findIn (M := model prog w) X hgt
  have L3 := looks_find (M := model prog w) X I hf
  have sub : Looks (model prog w) hp (isInstance (.ref x) (.type "BaseException")) true := L0.andThen (looks_subIn X hsub)
  have hx0 : (false && onTheHeap (Value.builtin "BaseException.__getattribute__")) = false := rfl
  have hx2 : (Value.builtin "BaseException.__getattribute__" == Value.builtin "object.__getattribute__") = false := by decide +kernel
  have hx1 : (onTheHeap (Value.ref D) && Value.builtin "BaseException.__getattribute__" == Value.builtin "object.__getattribute__") = false := by rw [hx2]; rfl
  unfold getAttr? getAttrBy? getAttrBy
  refine wpAny_bind (wpAny_mkText (wpAny_bind (wpAny_attempt (wpAny_holding (wpAny_bind (L0.at (wpAny_bind (L1.at ?_))))))))
  show wpAny _ _ (if (onTheHeap (Value.ref D) && Value.builtin "BaseException.__getattribute__" == Value.builtin "object.__getattribute__") = true then _ else _) _ _ _
  rw [hx1, if_neg Bool.false_ne_true]
  unfold getAttrByItsOwn hookBefore
  refine wpAny_bind ?_
  rw [if_pos (show onTheHeap (Value.ref D) = true from rfl)]
  refine L2.at ?_
  refine wpAny_bind (wpAny_attempt (wpAny_holding ?_))
  unfold callGetattribute
  rw [hx0, if_neg Bool.false_ne_true]
  unfold boundAndCalled
  rw [PySem.F.excAttr_ValueError.ga.bind (.ref x)]
  refine wpAny_bind (wpAny_pure ?_)
  show wpAny _ _ (call (.builtin "BaseException.__getattribute__") [.ref x, .str "__class__" t]) _ _ _
  refine wpAny_call (codeAny_call_builtin PySem.F.excAttr_ValueError.ga.plain PySem.F.entry_bexc_ga ?_)
  refine @check_slot (model prog w) _ _ ⟨hp, g, d, t + 1, os⟩ "BaseException.__getattribute__" "BaseException" "__getattribute__" (.ref x) [.str "__class__" t] [] _ (by decide +kernel) (by decide +kernel) sub (PySem.F.args_bexc_ga (.ref x) (.str "__class__" t)) ?_
  unfold Builtin.«object.__getattribute__»
  refine wpAny_bind (wpAny_of_eq (a := ((Value.ref x : Value), [Value.str "__class__" t])) (by first | rfl | (simp only [slotArgs]; rfl)) ?_)
  refine wpAny_bind (wpAny_pure (wpAny_bind (L0.at (wpAny_bind (L3.at ?_)))))
  show wpAny _ _ (holding [Value.builtin "object.__class__"] (call (.builtin "getset_descriptor.__get__") [.builtin "object.__class__", .ref x, .ref D]) >>= ret) _ _ _
  refine wpAny_bind (wpAny_holding (wpAny_call (class_get (s := ⟨hp, g, d, t + 1, os⟩) (ox := ox) (od := od) X I hm ?_)))
  refine wpAny_pure ?_
  show wpAny _ _ (handedOut (.ref D)) _ _ _
  rw [handedOut_of (v := .ref D) rfl]
  first
    | exact wpAny_pure (wpAny_pure h)
    | exact wpAny_pure h
    | exact wpAny_pure (wpAny_bind (wpAny_pure (wpAny_pure h)))
theorem kitx_excX (hga : findIn K (.ref D) "__getattribute__" = some (some (.builtin "BaseException.__getattribute__"))) (hgt : findIn K (.ref D) "__getattr__" = some none) (hsub : subIn K (.ref D) (.type "BaseException") = some true) (hdct : hasDictIn K D = true) (ha : findIn K (.ref D) "__class__" = some (some (.builtin "object.__class__")))
    (hn : specialIn K (.builtin "object.__class__") "__get__" = some (some (.builtin "getset_descriptor.__get__"))) (htk : takesIn K (.builtin "object.__class__") = some true) (hm : mroIn K D (.type "object") = some true) :
    KitX K (.ref x) (.ref D) (fun h => ∃ od, InstAt h x ox D od) where
  ty := fun _ _ _ ⟨_, I⟩ => I.type
  it := fun _ _ X _ => by
    obtain ⟨cdD, hcD, _⟩ := any_some hdct
    unfold clsIn at hcD
    split at hcD
    · rename_i c' d' cd' sl' ho
      intro A' Q' E' s' k q
      unfold isType loadHead
      exact wpAny_bind (wpAny_loadPart (k _ _ (X _ _ ho)) (wpAny_pure q))
    · cases hcD
  ne := fun h tp dd its n sl X htp => by
    obtain ⟨cdD, hcD, _⟩ := any_some hdct
    refine Bool.eq_false_iff.mpr fun q => ?_
    have e : D = tp := Value.ref.inj (beq_iff_eq.mp q)
    subst e
    unfold clsIn at hcD
    split at hcD
    · rename_i c' d' cd' sl' ho
      have z := (X _ _ ho).symm.trans htp
      cases z
    · cases hcD
  ca := fun X ⟨_, I⟩ k => kin_classX hga hgt hsub hdct ha hn htk hm X I k
end
end PySem.W
namespace L2
open PySem PySem.Spec PyProof.Rows
/-- isinstance(e, c), e the exception that the suite holds, dd its dict -/
def rIsX (K : PySem.W.Frag) (D a dd : Addr) : List V → Hp → VK → Prop := fun xs H Q => ∃ (c : V) (cv : Value) (b : Bool) (gs : List (Str × V)), xs = [.ref a, c] ∧ (∀ u, RelV c u → u = cv) ∧ H dd = some (.xd gs) ∧ PySem.W.kitOne K (.ref D) cv = some b ∧ Q (.bl b) H
theorem call_isX {X : Cx} {a D dd : Addr} {oe : Obj} {pn : List (Addr × Obj)} (C : ExcC X.K D) (hz : Zc (.ref D) (some dd) oe) (hf : ∃ vs, oe.data = .fields vs) : CallR (X.suite a ((a, oe) :: pn)) (.builtin "isinstance") (rIsX X.K D a dd) := by
  intro pins s σ H xs us Q I r h
  obtain ⟨c, cv, b, gs, rfl, hcv, hdd, e, q⟩ := h
  cases r with
  | cons rx rr =>
    cases rr with
    | cons rt rr =>
      cases rr
      cases rx
      have ec := hcv _ rt
      subst ec
      obtain ⟨hget, _⟩ := I.pin (a, oe) (List.mem_append.mpr (.inl List.mem_cons_self))
      obtain ⟨vs, hv⟩ := hf
      have hx : ObjOk X.prog X.w H s.heap dd (.xd gs) := I.hok dd _ hdd
      obtain ⟨mA, hns, hr⟩ := hx
      obtain ⟨od, ho, hl⟩ := lookIn_ns hns
      have J : PySem.W.InstAt s.heap a oe D (some od) := ⟨hget, hz.1, by unfold PySem.W.notCls; rw [hv] <;> rfl, by rw [hz.2]; exact ho⟩
      exact PySem.W.kia_one (PySem.W.kitx_excX C.hg C.hk C.hs C.hd C.ha C.hn C.ht C.hm) I.kIn ⟨_, J⟩ e (fun z => nomatch z) fun tk => ⟨.bl b, H, I.kept (t' := tk) fun _ _ z => z, rfl, q⟩
end L2

set_option Elab.async false
set_option linter.all false
set_option maxRecDepth 100000
namespace L3
open PySem PySem.Spec L2
/-! ### try / except C as n -/
/-- a clause: which classes it takes, its name's slot, its suite (of the exception, its dict, its class) -/
abbrev Hd3 := (Addr → Option Bool) × Nat × (Addr → Addr → Addr → T3S)
def suiteE (E : E3) (i : Nat) : E3 :=
  { nx := fun ρ => unl ρ i = true ∧ E.nx (ρ.set i .emp), rt := E.rt, ro := E.ro, bk := fun ρ => unl ρ i = true ∧ E.bk (ρ.set i .emp), ct := fun ρ => unl ρ i = true ∧ E.ct (ρ.set i .emp) }
def xMany (Wo : E3X) (E : E3) : List Hd3 → E3X
  | [] => Wo
  | (e, i, ts) :: r => fun C fs ρ => match e C with
    | some true => unl ρ i = true ∧ ∀ a dd, ts a dd C (suiteE E i) (ρ.set i (.shr (.exc a dd C fs)))
    | some false => xMany Wo E r C fs ρ
    | none => False
inductive HdsS (K : PySem.W.Frag) : List (Value × Nat × (Addr → Value → Option Addr → TS)) → List Hd3 → Prop
  | nil : HdsS K [] []
  | cons {c : Value} {i : Nat} {ts : Addr → Value → Option Addr → TS} {e : Addr → Option Bool} {t3 : Addr → Addr → Addr → T3S} {l : List (Value × Nat × (Addr → Value → Option Addr → TS))} {l3 : List Hd3} (he : ∀ C b, e C = some b → PySem.W.exmOne K (.ref C) c = some b) (hs : ∀ a dd C, SimS K (ts a (.ref C) (some dd)) (t3 a dd C)) (r : HdsS K l l3) : HdsS K ((c, i, ts) :: l) ((e, i, t3) :: l3)
section
variable {F : Fr} {U U2 : US} {ρ ρ' ρ2 : En} {σ σ2 : St} {H H' H2 : Hp} {K : PySem.W.Frag}
theorem kx_many {l : List (Value × Nat × (Addr → Value → Option Addr → TS))} {l3 : List Hd3} (h : HdsS K l l3) {X3 : E3X} {W : WX} {D3 : E3} {D2 : Ends} (e : F.K = K) (kx : KX F X3 W) (k : KS F D3 D2) : KX F (xMany X3 D3 l3) (wManyA K W D2 l) := by
  induction h with
  | nil => exact kx
  | @cons c i ts e' t3 l l3 he hs r ih =>
    refine ⟨fun U ρ σ H C dd fs gs R q1 q2 q3 q => ?_⟩
    have q : (match e' C with | some true => unl ρ i = true ∧ ∀ a dd, t3 a dd C (suiteE D3 i) (ρ.set i (.shr (.exc a dd C fs))) | some false => xMany X3 D3 l3 C fs ρ | none => False) := q
    cases ec : e' C with
    | none => rw [ec] at q; exact q.elim
    | some b =>
      rw [ec] at q
      refine ⟨b, he C b ec, fun eb a na => ?_, fun eb => ?_⟩
      · subst eb
        obtain ⟨u, q⟩ := q
        obtain ⟨s, h1, h2⟩ := unl_out u
        have rp : Rp F.K H U (.exc a dd C fs) (.ref a) := by
          simp only [Rp]
          exact ⟨trivial, gs, q1, q2, q3⟩
        refine hs a dd C F U _ _ H (suiteE D3 i) _ e (R.setShr h1 h2 rp) (q a dd) ⟨fun U' ρ' σ' H' R' z => ?_, fun U' ρ' σ' H' R' z => ?_, fun U' ρ' σ' H' R' z => ?_, k.rt, k.ro, k.rf⟩
        · obtain ⟨s', g1, g2⟩ := unl_out z.1
          exact k.nx _ _ _ _ (R'.setEmp g1 g2) z.2
        · obtain ⟨s', g1, g2⟩ := unl_out z.1
          exact k.bk _ _ _ _ (R'.setEmp g1 g2) z.2
        · obtain ⟨s', g1, g2⟩ := unl_out z.1
          exact k.ct _ _ _ _ (R'.setEmp g1 g2) z.2
      · subst eb
        exact ih.ex U ρ σ H C dd fs gs R q1 q2 q3 q
def sTryX (tb : E3X → T3S) (l3 : List Hd3) : E3X → T3S := fun X3 E ρ => tb (xMany X3 E l3) E ρ
theorem simTryX {tb : WX → TS} {tb3 : E3X → T3S} {l : List (Value × Nat × (Addr → Value → Option Addr → TS))} {l3 : List Hd3} (hb : SimSX K tb tb3) (hh : HdsS K l l3) : SimSX K (fun W => fun D σ H => tb (wManyA K W D l) D σ H) (sTryX tb3 l3) :=
  fun F U ρ σ H X3 W D3 D2 e kx R q k => hb F U ρ σ H (xMany X3 D3 l3) (wManyA K W D2 l) D3 D2 e (kx_many hh e kx k) R q k
/-! ### in the suite -/
/-- err.f, err the exception a that the suite holds in slot i -/
def eXf (a dd C C0 : Addr) (f : Str) (i : Nat) : T3E := fun ρ Q => match ρ[i]? with
  | some (.shr (.exc a1 dd1 C1 fs)) => (a1 = a ∧ dd1 = dd ∧ C1 = C ∧ C = C0) ∧ wo (fs.lookup f) fun d => Q (.val d) ρ
  | _ => False
theorem rpF_get : ∀ {fs : List (Str × D)} {gs : List (Str × V)} {f : Str} {d : D}, RpF K H U fs gs → fs.lookup f = some d → ∃ v, gs.lookup f = some v ∧ Rp K H U d v
  | [], _, _, _, _, e => by cases e
  | (k, x) :: fs, gs, f, d, h, e => by
    simp only [RpF] at h
    obtain ⟨v, r, rfl, h1, h2⟩ := h
    rw [List.lookup_cons] at e ⊢
    by_cases hk : f = k
    · subst hk
      simp only [beq_self_eq_true] at e ⊢
      cases e
      exact ⟨v, rfl, h1⟩
    · have hb : (f == k) = false := by simpa using hk
      rw [hb] at e ⊢
      exact rpF_get h2 e
theorem simXf {a dd C C0 : Addr} {f : Str} {i : Nat} : SimE K (tXf a (.ref C) (some dd) C0 f (tVar i)) (eXf a dd C C0 f i) := by
  intro F U ρ σ H Q3 Q2 e R q k
  have q : (match ρ[i]? with | some (.shr (.exc a1 dd1 C1 fs)) => (a1 = a ∧ dd1 = dd ∧ C1 = C ∧ C = C0) ∧ wo (fs.lookup f) fun d => Q3 (.val d) ρ | _ => False) := q
  cases h1 : ρ[i]? with
  | none => rw [h1] at q; exact q.elim
  | some s =>
    rw [h1] at q
    cases s <;> first | exact q.elim | skip
    rename_i d
    cases d <;> first | exact q.elim | skip
    obtain ⟨⟨rfl, rfl, rfl, rfl⟩, q5⟩ := q
    obtain ⟨d, el, q6⟩ := wo_out q5
    have hi : i < σ.length := by rw [← R.len]; exact (List.getElem?_eq_some_iff.mp h1).1
    have h3 : σ[i]? = some σ[i] := List.getElem?_eq_getElem hi
    obtain ⟨v, ev, rp⟩ := R.slot i _ _ h1 h3
    rw [ev] at h3
    simp only [Rp] at rp
    obtain ⟨rfl, gs, g1, g2, g3⟩ := rp
    obtain ⟨u, lu, ru⟩ := rpF_get g3 el
    exact ⟨_, h3, rfl, rfl, _, gs, u, rfl, g1, lu, k (.val d) u ρ H R (.refl R) ru q6⟩
/-- isinstance(err, T) -/
def cIsX (a dd C : Addr) (kit : Addr → D → Option Bool) (rs : List Rs) (ρ : En) (Q : Rs → En → Prop) : Prop := match rs with
  | [.val (.exc a1 dd1 C1 fs), .val tv] => (a1 = a ∧ dd1 = dd ∧ C1 = C) ∧ wo (kit C tv) fun b => Q (.val (.bl b)) ρ
  | _ => False
/-- what isinstance is told of the classes -/
def KitOk (K : PySem.W.Frag) (kit : Addr → D → Option Bool) : Prop := ∀ C tv b, kit C tv = some b → (∃ D, tv = .cls D ∧ PySem.W.kitOne K (.ref C) (.ref D) = some b) ∨ ∃ n, tv = .ty n ∧ PySem.W.kitOne K (.ref C) (.type n) = some b
theorem simIsX {a dd C : Addr} {kit : Addr → D → Option Bool} (hk : KitOk K kit) : SimCR K (rIsX K C a dd) (cIsX a dd C kit) := by
  intro F U ρ σ H vs rs Q3 Q2 e R q h k
  subst e
  unfold cIsX at h
  split at h
  · rename_i a1 dd1 C1 fs tv
    obtain ⟨⟨rfl, rfl, rfl⟩, h5⟩ := h
    obtain ⟨b, eb, h6⟩ := wo_out h5
    cases q with
    | cons q1 qs =>
      cases qs with
      | cons q2 qs =>
        cases qs
        have q1 : Rp F.K H U (.exc a1 dd1 C1 fs) _ := q1
        have q2 : Rp F.K H U tv _ := q2
        simp only [Rp] at q1
        obtain ⟨rfl, gs, g1, _, _⟩ := q1
        rcases hk C1 tv b eb with ⟨D, rfl, kb⟩ | ⟨n, rfl, kb⟩
        · simp only [Rp] at q2
          subst q2
          exact ⟨_, .ref D, b, gs, rfl, fun u ru => ru, g1, kb, k (.val (.bl b)) _ _ _ R (.refl R) (show Rp _ _ _ _ _ from rp_bl) h6⟩
        · simp only [Rp] at q2
          subst q2
          exact ⟨_, .type n, b, gs, rfl, fun u ru => ru, g1, kb, k (.val (.bl b)) _ _ _ R (.refl R) (show Rp _ _ _ _ _ from rp_bl) h6⟩
  · exact h.elim
end
end L3

set_option Elab.async false
set_option linter.all false
set_option maxRecDepth 100000
namespace L3
open PySem PySem.Spec L2
open PyProof.Rows (b2i envOfC)
/-! ### syntax and its reading, where it may raise -/
structure QEX {ι : Type} (K : PySem.W.Frag) (X : ι → Cx) (e : Expr) (f : E3X → T3E) : Prop where
  ex : ∃ t : WX → TE, (∀ i W, Takes (X i) W → PE (X i) e (t W)) ∧ SimEX K t f
structure QSX {ι : Type} (K : PySem.W.Frag) (X : ι → Cx) (st : Stmt) (f : E3X → T3S) : Prop where
  ex : ∃ t : WX → TS, (∀ i W, Takes (X i) W → PS (X i) st (t W)) ∧ SimSX K t f
structure QBX {ι : Type} (K : PySem.W.Frag) (X : ι → Cx) (st : List Stmt) (f : E3X → T3S) : Prop where
  ex : ∃ t : WX → TS, (∀ i W, Takes (X i) W → PSs (X i) st (t W)) ∧ SimSX K t f
section
variable {ι : Type} {X : ι → Cx} {K : PySem.W.Frag} {pos p p2 pos' apos cpos spos : Pos} {e a b c tg iter : Expr} {es : List Expr} {f g : E3X → T3E} {x y : Str} {st : Stmt} {sts body els : List Stmt} {fs gs : E3X → T3S} {ft : T3T} {fa : T3A}
theorem xs (h : QS K X st fs0) : QSX K X st (fun _ => fs0) := let ⟨_, a1, a2⟩ := h.ex; ⟨_, fun i _ _ => a1 i, simLiftS a2⟩
theorem xb (h : QB K X sts fs0) : QBX K X sts (fun _ => fs0) := let ⟨_, a1, a2⟩ := h.ex; ⟨_, fun i _ _ => a1 i, simLiftS a2⟩
theorem xn : QBX K X [] (fun _ => sNext) := xb bn
theorem xc (h1 : QSX K X st fs) (h2 : QBX K X sts gs) : QBX K X (st :: sts) (fun X3 => sSeq (fs X3) (gs X3)) := let ⟨t, a1, a2⟩ := h1.ex; let ⟨u, b1, b2⟩ := h2.ex; ⟨fun W => tSeq (t W) (u W), fun i W tk => pss_cons (a1 i W tk) (b1 i W tk), simSeqX a2 b2⟩
theorem x1 (h1 : QSX K X st fs) : QBX K X [st] fs := let ⟨t, a1, a2⟩ := h1.ex; ⟨t, fun i W tk => pss_one (a1 i W tk), a2⟩
theorem xexpr (he : QEX K X e f) (hs : ∀ i, swapsWith e none pos.line (X i).env = pure false := by exact fun _ => rfl) : QSX K X (.Expr e pos) (fun X3 => sDrop (f X3)) := let ⟨t, a1, a2⟩ := he.ex; ⟨fun W => tDrop (t W), fun i W tk => ps_expr (a1 i W tk) (hs i), simDropX a2⟩
theorem xret (he : QEX K X e f) : QSX K X (.Return (some e) pos) (fun X3 => sRetV (f X3)) := let ⟨t, a1, a2⟩ := he.ex; ⟨fun W => tRet (t W), fun i W tk => ps_ret (a1 i W tk), simRetX a2⟩
theorem xif (hc : QT K X c ft) (ha : QBX K X body fs) (hb : QBX K X els gs) : QSX K X (.If c body els pos) (fun X3 => sIf ft (fs X3) (gs X3)) := let ⟨t, a1, a2⟩ := hc.ex; let ⟨u, b1, b2⟩ := ha.ex; let ⟨v, c1, c2⟩ := hb.ex; ⟨fun W => tIfS t (u W) (v W), fun i W tk => ps_if (a1 i) (b1 i W tk) (c1 i W tk), simIfX a2 b2 c2⟩
theorem xset (n : Nat) (he : QEX K X e f) (hN : ∀ i, (X i).N[n]? = some x := by exact fun _ => rfl) (hnd : ∀ i, (X i).N.Nodup := by exact fun _ => by decide) (hx : ∀ i, Loc (X i).env.scope x := by first | exact fun _ => Or.inl rfl | exact fun _ => Or.inr rfl)
    (hs : ∀ i, swapsWith e (some (.Name x pos')) pos.line (X i).env = pure false := by exact fun _ => rfl) (hf : ∀ i, (X i).fn x = true ∨ (X i).env.scope.names.lookup x = some .local := by first | exact fun _ => Or.inl rfl | exact fun _ => Or.inr rfl) :
    QSX K X (.Assign [.Name x pos'] e pos) (fun X3 => sAsg (f X3) (gN n)) := let ⟨t, a1, a2⟩ := he.ex; ⟨fun W => tAsg (t W) (gName n), fun i W tk => ps_set (hnd i) (hN i) (hx i) (a1 i W tk) (hs i) (hf i), simAsgX a2 (simGN n)⟩
theorem xwhile (hc : QT K X c ft) (hb : QBX K X body fs) (hp : ∀ i, PassesOwn (model (X i).prog (X i).w) (X i).A (X i).env (X i).xe) : QSX K X (.While c body [] pos) (fun X3 => sWhile ft (fs X3)) :=
  let ⟨t, a1, a2⟩ := hc.ex; let ⟨u, b1, b2⟩ := hb.ex; ⟨fun W => tWhile t (u W), fun i W tk => ps_while (hp i) (a1 i) (b1 i W tk), simWhileX a2 b2⟩
theorem xfor {wk : Bool} {w : T3I} {g3 : T3G} {ix : List Nat} (hi : QI K X wk tg iter w) (hg : QG K X wk tg g3 ix) (hb : QBX K X body fs) (hp : ∀ i, PassesOwn (model (X i).prog (X i).w) (X i).A (X i).env (X i).xe) (hc : ∀ i, (X i).calm = true := by exact fun _ => rfl)
    (hs : ∀ i x, foldedSetIterable iter (X i).env x = pure x := by exact fun _ _ => rfl) :
    QSX K X (.For tg iter body [] pos) (sForX w g3 fs) := let ⟨t, a1, a2⟩ := hi.ex; let ⟨u, b1, b2⟩ := hg.ex; let ⟨v, c1, c2⟩ := hb.ex; ⟨fun W => tFor t u (v W), fun i W tk => ps_for (hp i) (hc i) (a1 i) (b1 i) (c1 i W tk) (hs i), simForX a2 b2 c2⟩
end
end L3

set_option Elab.async false
set_option linter.all false
set_option maxRecDepth 100000
namespace L2
open PySem PySem.Spec PyProof.Rows
section
variable {X : Cx} {CX : CXT} {k : Nat} {f C : Addr} {fd : FuncData} {ps : List Str} {sp : Sp} {E : St → XK} {x m : Str} {p pos apos : Pos} {e o : Expr} {es : List Expr} {ta : TE} {t : TA}
/-- as run_make, what is let out by the slots -/
theorem run_makeS {pins : List (Addr × Obj)} {σ : St} {H : Hp} {s : Shared} {Q : VK} {us : List Value} {vs : List V} (M : Mk X.K C f) (F : FnOk X.prog X.w X.K X.mg X.base CX k f fd ps sp) (hr : Room (k + 1) X.A) (hb : Binds X.K fd ps [])
    (hx : PassesAt CX X σ (E σ)) (I : Inv X pins σ H s) (r : Vals vs us)
    (h : ∀ x dx, H x = none → H dx = none → dx ≠ x → sp (.ref x :: vs) (upd (upd H dx (.own x)) x (.ins C dx [])) (fun v H2 => v = .non ∧ Q (.ref x) H2) (E σ)) :
    wpAny (model X.prog X.w) X.A (call (.ref C) us) (EP X pins σ Q) X.xe s := by
  have hq := h (s.heap.objs.size + 1) s.heap.objs.size (I.hok.fresh (Nat.le_succ _)) (I.hok.fresh (Nat.le_refl _)) (Nat.ne_of_lt (Nat.lt_succ_self _))
  have I2 := Inv.made (C := C) I
  have r2 : Vals (V.ref (s.heap.objs.size + 1) :: vs) (Value.ref (s.heap.objs.size + 1) :: us) := .cons rfl r
  have hl : (Value.ref (s.heap.objs.size + 1) :: us).length = ps.length := by
    have e := r2.length
    rw [F.len _ _ _ _ hq] at e
    exact e.symm
  have b := hb _ (Value.ref (s.heap.objs.size + 1) :: us) I2.kIn (by rw [List.append_nil]; exact hl)
  rw [List.append_nil] at b
  refine wpAny_call (make_map (f := f) I.kIn M.makes M.init (beq_iff_eq.mp M.fn) (codeAny_mono (F.run _ X.stack _ _ ⟨Value.ref (s.heap.objs.size + 1) :: us, []⟩ (Value.ref (s.heap.objs.size + 1) :: us) _ _ (E σ) (hr.make C us [])
    (I2.env0.make C us []) b r2 hq) fun r s' hq' => ?_))
  cases r with
  | error e => exact hx pins _ _ e s' I2 hq'
  | ok fl =>
    cases fl with
    | ret u =>
      obtain ⟨v, H', I3, rv, ev, q3⟩ := I2.after hq'
      subst ev
      exact ⟨rv, ⟨V.ref (s.heap.objs.size + 1), H', I3, rfl, q3⟩⟩
    | next => exact False.elim hq'
    | brk => exact False.elim hq'
    | cont => exact False.elim hq'
def tMakeS (C : Addr) (sp : Sp) (E : St → XK) (t : TA) : TE := fun σ H Q => t σ H fun vs H1 => ∀ x dx, H1 x = none → H1 dx = none → dx ≠ x →
  sp (.ref x :: vs) (upd (upd H1 dx (.own x)) x (.ins C dx [])) (fun v H2 => v = .non ∧ Q (.ref x) H2) (E σ)
theorem pe_makeS (M : Mk X.K C f) (F : FnOk X.prog X.w X.K X.mg X.base CX k f fd ps sp) (hr : Room (k + 1) X.A) (hg : Gl X x) (hm : X.mg x = some (.ref C)) (hb : Binds X.K fd ps []) (hx : ∀ σ, PassesAt CX X σ (E σ))
    (ha : PA X (e :: es) t) (hdb : (x == ("__debug__" : Str)) = false := by decide) (he : starEach (e :: es) X.env = (false, eval e X.env) :: starEach es X.env := by rfl) (hpl : (backTo pos (starEach es X.env)).any (·.1) = false := by rfl) :
    PE X (.Call (.Name x p) (e :: es) [] pos) (tMakeS C sp E t) := by
  refine ⟨fun pins s σ H Q I h => ?_⟩
  refine wpAny_Call_Name_kw (ld_glob I hg hm ?_ hdb)
  refine PySem.W.callWith_K (h₀ := X.base) I.ok.mod.kin M.kp (thn (ha.run pos pins s σ H _ I h) fun us s1 ⟨vs, H1, I1, r, q⟩ => ⟨I1.kIn, ?_⟩) he hpl
  exact run_makeS M F hr hb (hx σ) I1 r q
/-- a def that raises nothing when asked so -/
theorem FnOk.down {P : Program} {w : World} {K : PySem.W.Frag} {mg : Str → Option Value} {base : Heap} {sp' : Sp} (F : FnOk P w K mg base (L2.CX P w) k f fd ps sp) (h : ∀ vs H Q E, sp' vs H Q E → sp vs H Q fun _ _ _ => False) : FnOk P w K mg base CX0 k f fd ps sp' := by
  refine ⟨fun vs H Q E q => F.len _ _ _ _ (h _ _ _ _ q), fun A outer s H args us vs Q E hr e0 hb r q => ?_⟩
  refine codeAny_mono (F.run A outer s H args us vs Q _ hr e0 hb r (h _ _ _ _ q)) fun r s' z => ?_
  cases r with
  | error e =>
    obtain ⟨_, _, _, _, _, _, _, _, _, _, _, _, z⟩ := z
    exact z.elim
  | ok fl => cases fl <;> exact z
end
end L2
namespace L3
open PySem PySem.Spec L2
open PyProof.Rows (b2i envOfC)
/-! ### defs that may raise -/
section
variable {P : Program} {w : World} {K : PySem.W.Frag} {mg : Str → Option Value} {base : Heap} {x gx qual : Str} {params : Arguments} {body : List Stmt} {scope : Scope} {st : Stmt} {f C : Addr} {fd : FuncData} {N ps : List Str} {k n : Nat} {ms : List Md} {sp : SX} {t3 : E3X → T3S} {m : Str}
abbrev CxDX (P : Program) (w : World) (K : PySem.W.Frag) (mg : Str → Option Value) (base : Heap) (N : List Str) (qual : Str) (scope : Scope) (f : Addr) : (Value × Around × List Env × Shared × Hp × XK) → Cx :=
  fun z => cxOf (L2.CX P w) P w K mg base N qual scope f z.1 z.2.1 z.2.2.1 z.2.2.2.1 z.2.2.2.2.1 z.2.2.2.2.2
abbrev CxRX (k : Nat) (P : Program) (w : World) (K : PySem.W.Frag) (mg : Str → Option Value) (base : Heap) (N : List Str) (qual : Str) (scope : Scope) (f : Addr) : {z : Value × Around × List Env × Shared × Hp × XK // Room k (z.2.1.deeper (envOfC qual scope z.2.2.2.1.heap.objs.size f z.1))} → Cx :=
  fun z => CxDX P w K mg base N qual scope f z.1
theorem passRX : ∀ i, PassesOwn (model (CxRX k P w K mg base N qual scope f i).prog (CxRX k P w K mg base N qual scope f i).w) (CxRX k P w K mg base N qual scope f i).A (CxRX k P w K mg base N qual scope f i).env (CxRX k P w K mg base N qual scope f i).xe := fun i => passes_of rfl
theorem fnX {dvs : List V} {kws : List (Str × V)} (F : FunD K x qual params body scope dvs kws f fd) (S : FnScope N ps scope) (hl : ps.length = ms.length) (hN : N.length = ms.length + n) (hw : QBX K (CxRX k P w K mg base N qual scope f) body t3)
    (hsp : ∀ ds QR QO QX, sp ds QR QO QX → ds.length = ms.length → t3 (endX ms ds QX) (endE ms ds QR QO) (startE n ms ds)) : FnOk P w K mg base (L2.CX P w) (k + 1) f fd ps (LiftX K ms sp) := by
  obtain ⟨t, h1, h2⟩ := hw.ex
  refine F.ok S (fun vs H Q E h => ?_) fun cdv A outer s H vs Q E hr h => ⟨t fun cls d _ H => E cls d H, h1 ⟨(cdv, A, outer, s, H, E), hr⟩ _ (takes_of rfl rfl rfl rfl), body3X h2 hN hsp vs H Q E h⟩
  obtain ⟨U, ds, QR, QO, QX, A, _⟩ := h
  rw [hl]; exact A.l1.symm
structure C3X (P : Program) (w : World) (K : PySem.W.Frag) (mg : Str → Option Value) (base : Heap) (k : Nat) (x : Str) (ms : List Md) (sp : SX) : Prop where
  ex : ∃ (f : Addr) (fd : FuncData) (ps : List Str), FnOk P w K mg base (L2.CX P w) k f fd ps (LiftX K ms sp) ∧ mg x = some (.ref f) ∧ PySem.W.keepIn K (.ref f) = true ∧ Binds K fd ps []
structure Me3X (P : Program) (w : World) (K : PySem.W.Frag) (mg : Str → Option Value) (base : Heap) (k : Nat) (C : Addr) (m : Str) (ms : List Md) (sp : SX) : Prop where
  ex : ∃ (f : Addr) (fd : FuncData) (ps : List Str), Cls K C ∧ Meth K C m f ∧ FnOk P w K mg base (L2.CX P w) k f fd ps (LiftX K ms sp) ∧ Binds K fd ps []
structure Mk3X (P : Program) (w : World) (K : PySem.W.Frag) (mg : Str → Option Value) (base : Heap) (k : Nat) (x : Str) (C : Addr) (ms : List Md) (sp : SX) : Prop where
  ex : ∃ (f : Addr) (fd : FuncData) (ps : List Str), Mk K C f ∧ FnOk P w K mg base (L2.CX P w) k f fd ps (LiftX K (.par :: ms) sp) ∧ mg x = some (.ref C) ∧ Binds K fd ps []
theorem lift_down {sp' : S3} (h : ∀ ds QR QO, sp' ds QR QO → sp ds QR QO fun _ _ _ => False) : ∀ vs H Q E, Lift K ms sp' vs H Q E → LiftX K ms sp vs H Q fun _ _ _ => False :=
  fun vs H Q E ⟨U, ds, QR, QO, A, q, r1, r2⟩ => ⟨U, ds, QR, QO, _, A, h _ _ _ q, r1, r2, fun _ _ _ _ _ _ _ _ _ _ _ z => z⟩
theorem C3X.down {sp' : S3} (c : C3X P w K mg base k x ms sp) (h : ∀ ds QR QO, sp' ds QR QO → sp ds QR QO fun _ _ _ => False) : C3 P w K mg base k x ms sp' :=
  let ⟨f, fd, ps, F, h1, h2, h3⟩ := c.ex; ⟨f, fd, ps, F.down (lift_down h), h1, h2, h3⟩
theorem Me3X.down {sp' : S3} (c : Me3X P w K mg base k C m ms sp) (h : ∀ ds QR QO, sp' ds QR QO → sp ds QR QO fun _ _ _ => False) : Me3 P w K mg base k C m ms sp' :=
  let ⟨f, fd, ps, h0, h1, F, h3⟩ := c.ex; ⟨f, fd, ps, h0, h1, F.down (lift_down h), h3⟩
theorem Mk3X.down {sp' : S3} (c : Mk3X P w K mg base k x C ms sp) (h : ∀ ds QR QO, sp' ds QR QO → sp ds QR QO fun _ _ _ => False) : Mk3 P w K mg base k x C ms sp' :=
  let ⟨f, fd, ps, h0, F, h1, h3⟩ := c.ex; ⟨f, fd, ps, h0, F.down (lift_down h), h1, h3⟩
theorem fkX (F : Df K x qual st f) (hb : BindN x qual st ps) (S : FnScope N ps (defScope st)) (hl : ps.length = ms.length) (hN : N.length = ms.length + n) (hw : QBX K (CxRX k P w K mg base N qual (defScope st) f) (defBody st) t3)
    (hsp : ∀ ds QR QO QX, sp ds QR QO QX → ds.length = ms.length → t3 (endX ms ds QX) (endE ms ds QR QO) (startE n ms ds)) : ∃ fd, FnOk P w K mg base (L2.CX P w) (k + 1) f fd ps (LiftX K ms sp) ∧ Binds K fd ps [] := by
  obtain ⟨fd, F⟩ := F.ex
  exact ⟨fd, fnX F S hl hN hw hsp, F.bindsN hb⟩
theorem ckX (F : ∃ f, Df K x qual st f ∧ mg gx = some (.ref f)) (hb : BindN x qual st ps) (S : FnScope N ps (defScope st)) (hl : ps.length = ms.length) (hN : N.length = ms.length + n) (hw : ∀ f, QBX K (CxRX k P w K mg base N qual (defScope st) f) (defBody st) t3)
    (hsp : ∀ ds QR QO QX, sp ds QR QO QX → ds.length = ms.length → t3 (endX ms ds QX) (endE ms ds QR QO) (startE n ms ds)) : C3X P w K mg base (k + 1) gx ms sp := by
  obtain ⟨f, F, hm⟩ := F
  obtain ⟨fd, h1, h2⟩ := fkX F hb S hl hN (hw f) hsp
  obtain ⟨_, F⟩ := F.ex
  exact ⟨f, fd, ps, h1, hm, F.kp, h2⟩
theorem me3X (c : Cls K C) (F : ∃ f, Df K x qual st f ∧ Meth K C m f) (hb : BindN x qual st ps) (S : FnScope N ps (defScope st)) (hl : ps.length = ms.length) (hN : N.length = ms.length + n) (hw : ∀ f, QBX K (CxRX k P w K mg base N qual (defScope st) f) (defBody st) t3)
    (hsp : ∀ ds QR QO QX, sp ds QR QO QX → ds.length = ms.length → t3 (endX ms ds QX) (endE ms ds QR QO) (startE n ms ds)) : Me3X P w K mg base (k + 1) C m ms sp := by
  obtain ⟨f, F, M⟩ := F
  obtain ⟨fd, h1, h2⟩ := fkX F hb S hl hN (hw f) hsp
  exact ⟨f, fd, ps, c, M, h1, h2⟩
theorem mk3X (F : ∃ f, Df K x qual st f ∧ Mk K C f ∧ mg gx = some (.ref C)) (hb : BindN x qual st ps) (S : FnScope N ps (defScope st)) (hl : ps.length = ms.length + 1) (hN : N.length = ms.length + 1 + n) (hw : ∀ f, QBX K (CxRX k P w K mg base N qual (defScope st) f) (defBody st) t3)
    (hsp : ∀ ds QR QO QX, sp ds QR QO QX → ds.length = ms.length + 1 → t3 (endX (.par :: ms) ds QX) (endE (.par :: ms) ds QR QO) (startE n (.par :: ms) ds)) : Mk3X P w K mg base (k + 1) gx C ms sp := by
  obtain ⟨f, F, M, hm⟩ := F
  obtain ⟨fd, h1, h2⟩ := fkX (ms := .par :: ms) F hb S hl hN (hw f) hsp
  exact ⟨f, fd, ps, M, h1, hm, h2⟩
end
section
variable {F : Fr} {U U2 : US} {ρ ρ' ρ2 : En} {σ σ2 : St} {H H' H2 : Hp} {K : PySem.W.Frag}
/-- C(..), which may raise; the new object is shared at once -/
def eMakeX (C : Addr) (ms : List Md) (sp : SX) (g : T3A) : E3X → T3E := fun X3 ρ Q => g ρ fun rs ρ1 => apart ms rs = true ∧ wo (argsD ms rs ρ1) fun ds => sp (.obj C [] :: ds) (fun r ds' => r.isNon = true ∧ match ds' with
  | o :: ds'' => Q (.val o) (updE ms rs ds'' ρ1)
  | [] => False) (fun _ _ => False) (fun C' fs ds' => match ds' with
  | _ :: ds'' => X3 C' fs (updE ms rs ds'' ρ1)
  | [] => False)
theorem simMakeX {C : Addr} {ms : List Md} {sp : SX} {u : TA} {g : T3A} (np : noPab ms = true) (h : SimA K u g) : SimEX K (fun W => tMakeS C (LiftX K (.par :: ms) sp) (WE W) u) (eMakeX C ms sp g) := by
  intro F U ρ σ H X3 W Q3 Q2 e kx R q k
  refine h F U ρ σ H _ _ e R q fun rs vs ρ1 H1 R1 s1 q1 ⟨ap, h1⟩ => ?_
  obtain ⟨ds, ed, h1⟩ := wo_out h1
  subst e
  obtain ⟨AO, own⟩ := args_ok R1 q1 ed ap
  intro x dx hx hd hne
  refine ⟨fun b => U b ∨ b = x, .obj C [] :: ds, _, _, _, make_args (rs := rs) R1 rfl AO own hx hd, h1, fun v H' U' d ds' A rp q => ?_, fun _ _ _ _ _ _ _ _ _ q => q.elim, fun C' dd fs gs H' U' ds' A e1 e2 e3 q => ?_⟩
  · obtain ⟨hnon, q⟩ := q
    refine ⟨isNon_rp hnon rp, ?_⟩
    cases ds' with
    | nil => exact q.elim
    | cons o ds'' =>
      have q : Q3 (.val o) (updE ms rs ds'' ρ1) := q
      obtain ⟨x', ex', ux, tx⟩ : SlotOk F.K H' U' (.par o) (some (.ref x)) := A.par 0 .par (.ref x) o rfl rfl rfl rfl
      cases ex'
      have A' := A.tail hx hd R1.tr fun a w => R1.ownU (own a w)
      have up := A'.upA AO (sameB_no np)
      obtain ⟨R2, S2⟩ := R1.afterS q1 ed ap (sameB_no np) A'
      have R3 : Rel F U (updE ms rs ds'' ρ1) σ H' := R2.shrink up R1.up fun a z => R1.ownU (S2.own a z)
      have p : Pres H' U' H' U := fun b o h n => ⟨h, fun z => n (up b z)⟩
      have nU : ¬ U x := fun z => by
        obtain ⟨o, ho⟩ := R1.tr x z
        rw [hx] at ho; cases ho
      exact k (.val o) (.ref x) _ _ R3 (s1.trans S2) (rp_of_top (tx.pres p fun _ h => h) nU) q
  · cases ds' with
    | nil => exact q.elim
    | cons o ds'' =>
      have q : X3 C' fs (updE ms rs ds'' ρ1) := q
      have A' := A.tail hx hd R1.tr fun a w => R1.ownU (own a w)
      exact kx.ex U' _ σ H' C' dd fs gs (R1.after q1 ed ap A').1 e1 e2 e3 q
end
end L3

set_option Elab.async false
set_option linter.all false
set_option maxRecDepth 100000
namespace L3
open PySem PySem.Spec L2
open PyProof.Rows (b2i envOfC)
section
variable {ι : Type} {X : ι → Cx} {K : PySem.W.Frag} {pos p np pos' apos cpos spos : Pos} {e a b c tg iter : Expr} {es : List Expr} {f g : E3X → T3E} {x y n m : Str} {st : Stmt} {sts body els suite : List Stmt} {b₀ : Stmt} {fs gs : E3X → T3S} {ft : T3T} {fa : T3A} {ms : List Md} {sp : SX} {k j : Nat} {C C0 : Addr}
theorem xcall (cf : ∀ i, C3X (X i).prog (X i).w K (X i).mg (X i).base k x ms sp) (hR : ∀ i, Room j (X i).A) (hk : k ≤ j) (ha : QA K X (e :: es) fa) (hK : ∀ i, (X i).K = K := by exact fun _ => rfl) (hg : ∀ i, Gl (X i) x := by exact fun _ => rfl) (hdb : (x == ("__debug__" : Str)) = false := by decide)
    (he : ∀ i, starEach (e :: es) (X i).env = (false, eval e (X i).env) :: starEach es (X i).env := by exact fun _ => rfl) (hpl : ∀ i, (backTo pos (starEach es (X i).env)).any (·.1) = false := by exact fun _ => rfl) (np : noPab ms = true := by rfl) :
    QEX K X (.Call (.Name x p) (e :: es) [] pos) (eCallX ms sp fa) :=
  let ⟨u, h1, h2⟩ := ha.ex
  ⟨fun W => tCallS (LiftX K ms sp) (WE W) u, fun i W tk => by
    obtain ⟨f, fd, ps, F, hm, kp, b⟩ := (cf i).ex
    have e := hK i
    subst e
    exact pe_callS F ((hR i).mono hk) (hg i) hm kp b (passAt tk) (h1 i) hdb (he i) (hpl i), simCallX np h2⟩
theorem xmake (cf : ∀ i, Mk3X (X i).prog (X i).w K (X i).mg (X i).base k x C ms sp) (hR : ∀ i, Room j (X i).A) (hk : k + 1 ≤ j) (ha : QA K X (e :: es) fa) (hK : ∀ i, (X i).K = K := by exact fun _ => rfl) (hg : ∀ i, Gl (X i) x := by exact fun _ => rfl) (hdb : (x == ("__debug__" : Str)) = false := by decide)
    (he : ∀ i, starEach (e :: es) (X i).env = (false, eval e (X i).env) :: starEach es (X i).env := by exact fun _ => rfl) (hpl : ∀ i, (backTo pos (starEach es (X i).env)).any (·.1) = false := by exact fun _ => rfl) (np : noPab ms = true := by rfl) :
    QEX K X (.Call (.Name x p) (e :: es) [] pos) (eMakeX C ms sp fa) :=
  let ⟨u, h1, h2⟩ := ha.ex
  ⟨fun W => tMakeS C (LiftX K (.par :: ms) sp) (WE W) u, fun i W tk => by
    obtain ⟨f, fd, ps, M, F, hm, b⟩ := (cf i).ex
    have e := hK i
    subst e
    exact pe_makeS M F ((hR i).mono hk) (hg i) hm b (passAt tk) (h1 i) hdb (he i) (hpl i), simMakeX np h2⟩

/-! ### try / except -/
abbrev TrX (X : ι → Cx) : {z : ι × List (Addr × Obj) × (Value → Shared → Prop) // PassesOwn (model (X z.1).prog (X z.1).w) (X z.1).A (X z.1).env z.2.2} → Cx := fun z => (X z.1.1).tr z.1.2.1 z.1.2.2
abbrev SuX (X : ι → Cx) (a dd C : Addr) : {z : ι × Obj × List (Addr × Obj) // Zc (.ref C) (some dd) z.2.1 ∧ ∃ vs, z.2.1.data = .fields vs} → Cx := fun z => (X z.1.1).suite a ((a, z.1.2.1) :: z.1.2.2)
structure QH (K : PySem.W.Frag) (X : ι → Cx) (hds : List ExceptHandler) (l3 : List Hd3) : Prop where
  ex : ∃ l, (∀ i, HdsA (X i) hds l) ∧ HdsS K l l3
theorem hn : QH K X [] [] := ⟨[], fun _ => .nil, .nil⟩
theorem hc {hds : List ExceptHandler} {l3 : List Hd3} {e : Addr → Option Bool} {t3 : Addr → Addr → Addr → T3S} (i : Nat) (hnm : ∀ i, (X i).mg x = some (.ref C0)) (he : ∀ C b, e C = some b → PySem.W.exmOne K (.ref C) (.ref C0) = some b)
    (hs : ∀ a dd C, QB K (SuX X a dd C) (b₀ :: suite) (t3 a dd C)) (r : QH K X hds l3) (hi : ∀ j, (X j).N[i]? = some n := by exact fun _ => rfl) (hln : ∀ j, (X j).env.kindOf n = some .local := by exact fun _ => rfl) (hg : ∀ i, Gl (X i) x := by exact fun _ => rfl) (hdb : (x == ("__debug__" : Str)) = false := by decide) :
    QH K X (.ExceptHandler (some (.Name x np)) (some n) (b₀ :: suite) pos' :: hds) ((e, i, t3) :: l3) := by
  obtain ⟨l, h1, h2⟩ := r.ex
  let ts : Addr → Value → Option Addr → TS := fun a cls d => match cls, d with
    | .ref C, some dd => Classical.choose (hs a dd C).ex
    | _, _ => tNever
  refine ⟨(.ref C0, i, ts) :: l, fun j => .cons ⟨hg j, hdb, .inl (hnm j)⟩ (hi j) (hln j) (fun a oe cls d pn hz hf => ?_) (h1 j), .cons he (fun a dd C => (Classical.choose_spec (hs a dd C).ex).2) h2⟩
  cases cls <;> first | exact pss_never | skip
  rename_i C
  cases d with
  | none => exact pss_never
  | some dd => exact (Classical.choose_spec (hs a dd C).ex).1 ⟨(j, oe, pn), hz, hf⟩
theorem xtry {h₀ : ExceptHandler} {hds : List ExceptHandler} {l3 : List Hd3} (hb : QBX K (TrX X) body fs) (hh : QH K X (h₀ :: hds) l3) (hnd : ∀ i, (X i).N.Nodup) (hs : ∀ i, (X i).stack = (X i).env :: (X i).outer := by exact fun _ => rfl) (hf : ∀ i, (X i).env.frame = some (X i).env.locals := by exact fun _ => rfl)
    (hK : ∀ i, (X i).K = K := by exact fun _ => rfl) : QSX K X (.Try body (h₀ :: hds) [] [] pos) (sTryX fs l3) :=
  let ⟨t, a1, a2⟩ := hb.ex
  let ⟨l, b1, b2⟩ := hh.ex
  ⟨fun W => fun D σ H => t (wManyA K W D l) D σ H, fun i W tk => hK i ▸ ps_try_manyA (hs i) (hf i) (hnd i) tk (fun W pn xe tk hp => a1 ⟨(i, pn, xe), hp⟩ W tk) (b1 i), simTryX a2 b2⟩
/-! ### in the suite -/
theorem qxf {dd : Addr} {a : Addr} {C : Addr} {fl : Str} (n : Nat) (T : XfC K C0) (hno : PySem.W.findIn K (.ref C0) fl = some none) (hK : ∀ i, (X i).K = K := by exact fun _ => rfl) (hN : ∀ i, (X i).N[n]? = some x := by exact fun _ => rfl) (hv : ∀ i, Vis (X i).env.scope x := by first | exact fun _ => Or.inl rfl | exact fun _ => Or.inr (Or.inl rfl) | exact fun _ => Or.inr (Or.inr rfl))
    (hb : ∀ i, attributeBase (.Name x p) fl (X i).env (eval (.Name x p) (X i).env) = eval (.Name x p) (X i).env := by exact fun _ => rfl) (hd : (x == ("__debug__" : Str)) = false := by decide) (hcd : (x == ("__classdict__" : Str)) = false := by decide) :
    QE K (SuX X a dd C) (.Attribute (.Name x p) fl pos) (eXf a dd C C0 fl n) :=
  ⟨_, fun z => pe_xf (by rw [hK]; exact T) (by rw [hK]; exact hno) z.2.1 z.2.2 (pe_var (X := (X z.1.1).suite a ((a, z.1.2.1) :: z.1.2.2)) (hN z.1.1) (hv z.1.1) hd hcd) (hb z.1.1), simXf⟩
/-- as rIsX, with what the class must say -/
def rIsX' (K : PySem.W.Frag) (D a dd : Addr) : List V → Hp → VK → Prop := fun xs H Q => ExcC K D ∧ rIsX K D a dd xs H Q
theorem call_isX' {Y : Cx} {a D dd : Addr} {oe : Obj} {pn : List (Addr × Obj)} (hz : Zc (.ref D) (some dd) oe) (hf : ∃ vs, oe.data = .fields vs) : CallR (Y.suite a ((a, oe) :: pn)) (.builtin "isinstance") (rIsX' Y.K D a dd) := by
  intro pins s σ H xs us Q I r h
  exact call_isX h.1 hz hf pins s σ H xs us Q I r h.2
def KitOk' (K : PySem.W.Frag) (kit : Addr → D → Option Bool) : Prop := ∀ C tv b, kit C tv = some b → ExcC K C ∧ ((∃ D, tv = .cls D ∧ PySem.W.kitOne K (.ref C) (.ref D) = some b) ∨ ∃ n, tv = .ty n ∧ PySem.W.kitOne K (.ref C) (.type n) = some b)
theorem simIsX' {a dd C : Addr} {kit : Addr → D → Option Bool} (hk : KitOk' K kit) : SimCR K (rIsX' K C a dd) (cIsX a dd C kit) := by
  intro F U ρ σ H vs rs Q3 Q2 e R q h k
  refine ⟨?_, simIsX (kit := kit) (fun C tv b eb => (hk C tv b eb).2) F U ρ σ H vs rs Q3 Q2 e R q h k⟩
  unfold cIsX at h
  split at h
  · obtain ⟨⟨_, _, rfl⟩, h5⟩ := h
    obtain ⟨b, eb, _⟩ := wo_out h5
    exact (hk _ _ b eb).1
  · exact h.elim
theorem qisX {dd : Addr} {a : Addr} {C : Addr} {e2 : Expr} {e1 : Expr} {kit : Addr → D → Option Bool} (hk : KitOk' K kit) (hm : ∀ i, (X i).mg "isinstance" = none) (ha : QA K (SuX X a dd C) [e1, e2] fa) (hK : ∀ i, (X i).K = K := by exact fun _ => rfl) (hg : ∀ i, Gl (X i) "isinstance" := by exact fun _ => rfl)
    (hst : ∀ i, starEach [e1, e2] (X i).env = (false, eval e1 (X i).env) :: starEach [e2] (X i).env := by exact fun _ => rfl) (hpl : ∀ i, (backTo pos (starEach [e2] (X i).env)).any (·.1) = false := by exact fun _ => rfl) : QE K (SuX X a dd C) (.Call (.Name "isinstance" p) [e1, e2] [] pos) (eCB (cIsX a dd C kit) fa) :=
  qcb (fun z => by have := call_isX' (Y := X z.1.1) z.2.1 z.2.2 (a := a) (pn := z.1.2.2); rw [hK] at this; exact this) (simIsX' hk) (fun z => hm z.1.1) PyProof.Rows.boot_isinstance ha (fun z => hg z.1.1) (by decide) (by decide) (fun z => hst z.1.1) (fun z => hpl z.1.1)
end
/-! ### raise C(..) -/
def valsD : List Rs → Option (List D)
  | [] => some []
  | .val d :: rs => (valsD rs).map (d :: ·)
  | _ => none
/-- the promise of an exception's __init__ over the heap: fl says the fields, the last set first -/
def spInit (K : PySem.W.Frag) (C : Addr) (fl : List D → Option (List (Str × D))) : Sp := fun vs H Q _ => ∃ (a : Addr) (ws : List V) (U : US) (ds : List D) (fs : List (Str × D)), vs = .ref a :: ws ∧ ws.length = ds.length ∧ H a = some (exo a C none) ∧ (∀ b, U b → ∃ o, H b = some o) ∧ ¬ U a ∧ RpAll K (del H a) U ds ws ∧ fl ds = some fs ∧
  ∀ (d : Addr) (gs : List (Str × V)) (H2 : Hp), H d = none → H2 a = some (exo a C (some d)) → H2 d = some (exd d gs) → (∀ b, b ≠ a → b ≠ d → H2 b = H b) → RpF K (del H a) U fs gs → Q .non H2
structure Xc3 (P : Program) (w : World) (K : PySem.W.Frag) (mg : Str → Option Value) (base : Heap) (k : Nat) (x : Str) (C : Addr) (fl : List D → Option (List (Str × D))) : Prop where
  ex : OexC K C ∧ ∃ (fI : Addr) (fd : FuncData) (ps : List Str), PySem.W.findIn K (.ref C) "__init__" = some (some (.ref fI)) ∧ PySem.W.typeIn K (.ref fI) = some (.type "function") ∧ FnOk P w K mg base CX0 k fI fd ps (spInit K C fl) ∧ Binds K fd ps [] ∧ mg x = some (.ref C)
def sRaiseX (C : Addr) (fl : List D → Option (List (Str × D))) (g : T3A) : E3X → T3S := fun X3 _ ρ => g ρ fun rs ρ1 => wo (valsD rs) fun ds => ds.length ≤ 1000 ∧ wo (fl ds) fun fs => X3 C fs ρ1
section
variable {F : Fr} {U U2 : US} {ρ ρ' ρ2 : En} {σ σ2 : St} {H H' H2 : Hp} {K : PySem.W.Frag}
theorem valsD_rp : ∀ {rs : List Rs} {vs : List V} {ds : List D}, RVs F U σ H rs vs → valsD rs = some ds → RpAll F.K H U ds vs
  | _, _, ds, .nil, e => by
    simp only [valsD] at e
    cases e
    simp only [RpAll]
  | r :: rs, _, ds, .cons q qs, e => by
    cases r <;> first | (simp only [valsD] at e; cases e; done) | skip
    rename_i d
    simp only [valsD] at e
    obtain ⟨ds', e1, rfl⟩ := Option.map_eq_some_iff.mp e
    simp only [RpAll]
    exact ⟨_, _, rfl, q, valsD_rp qs e1⟩
theorem simRaiseX {C : Addr} {fl : List D → Option (List (Str × D))} {u : TA} {g : T3A} (h : SimA K u g) : SimSX K (fun W => fun _ σ H => tMkO C (spInit K C fl) [] u σ H fun cls d H' => W cls d σ H') (sRaiseX C fl g) := by
  intro F U ρ σ H X3 W D3 D2 e kx R q k
  refine h F U ρ σ H _ _ e R q fun rs vs ρ1 H1 R1 s1 q1 h1 => ?_
  obtain ⟨ds, ed, hl, h1⟩ := wo_out h1
  obtain ⟨fs, ef, h1⟩ := wo_out h1
  subst e
  have rp := valsD_rp q1 ed
  refine ⟨by rw [rp.len]; exact hl, fun a ha => ?_⟩
  rw [List.append_nil]
  have nU : ∀ {b}, H1 b = none → ¬ U b := fun {b} hb z => by
    obtain ⟨o, ho⟩ := R1.tr b z
    rw [hb] at ho; cases ho
  have eD : del (upd H1 a (exo a C none)) a = H1 := by
    funext b
    by_cases z : b = a
    · subst z; rw [del_same, ha]
    · rw [del_ne z, upd_ne z]
  refine ⟨a, vs, U, ds, fs, rfl, rp.len, upd_same, fun b z => ?_, nU ha, by rw [eD]; exact rp, ef, fun d gs H2 hd e1 e2 e3 rf => ?_⟩
  · obtain ⟨o, ho⟩ := R1.tr b z
    exact ⟨o, by rw [upd_ne fun z => by subst z; rw [ha] at ho; cases ho]; exact ho⟩
  · have da : d ≠ a := fun z => by subst z; rw [upd_same] at hd; cases hd
    have hd1 : H1 d = none := by rw [upd_ne da] at hd; exact hd
    have eH : upd (del H2 a) d (.xd gs) = upd H1 d (.xd gs) := by
      funext b
      by_cases z : b = d
      · subst z; rw [upd_same, upd_same]
      · rw [upd_ne z, upd_ne z]
        by_cases z2 : b = a
        · subst z2; rw [del_same, ha]
        · rw [del_ne z2, e3 b z2 z, upd_ne z2]
    refine ⟨rfl, d, gs, e1, e2, hd1, ?_⟩
    rw [eH]
    have ext : ∀ b o, H1 b = some o → upd H1 d (.xd gs) b = some o := fun b o hb => by rw [upd_ne fun z => by subst z; rw [hd1] at hb; cases hb]; exact hb
    rw [eD] at rf
    have P2 : Pres H1 U (upd H1 d (.xd gs)) U := fun b o hb n => ⟨ext b o hb, n⟩
    exact kx.ex U ρ1 σ _ C d fs gs (R1.ext ext) upd_same (nU hd1) (RpF.pres P2 fs gs rf) h1
end
end L3

set_option Elab.async false
set_option linter.all false
set_option maxRecDepth 100000
namespace L2
open PySem PySem.Spec PyProof.Rows
/-- from here on the dict of slot i is never written -/
def tFrzS (i : Nat) (t : TS) : TS := fun D σ H => ∃ d kvs, σ[i]? = some (some (.ref d)) ∧ H d = some (.dK kvs) ∧ ∀ od, t D σ (upd H d (.frz od (.dK kvs)))
theorem ps_frzS {X : Cx} {st : Stmt} {t : TS} (i : Nat) (h : PS X st t) : PS X st (tFrzS i t) := by
  refine ⟨fun pins s σ H D I hw => ?_⟩
  obtain ⟨d, kvs, _, hd, hw⟩ := hw
  obtain ⟨od, I1⟩ := I.lock hd trivial
  exact h.run pins s σ _ _ I1 (hw od)
end L2
namespace L3
open PySem PySem.Spec L2
open PyProof.Rows (b2i envOfC)
section
variable {F : Fr} {U U2 : US} {ρ ρ' ρ2 : En} {σ σ2 : L2.St} {H H' H2 : Hp} {K : PySem.W.Frag}
/-! ### an owned dict is frozen and may be walked -/
theorem Rel.freezeK (R : Rel F U ρ σ H) {i : Nat} {kvs : List (Key × D)} (h : ρ[i]? = some (.own (.dic kvs))) : ∃ a vs, σ[i]? = some (some (.ref a)) ∧ H a = some (.dK vs) ∧ ∀ od, ∃ U', Rel F U' (ρ.set i (.shr (.dik kvs))) σ (upd H a (.frz od (.dK vs))) := by
  have hi : i < σ.length := by rw [← R.len]; exact (List.getElem?_eq_some_iff.mp h).1
  have hσ : σ[i]? = some σ[i] := List.getElem?_eq_getElem hi
  obtain ⟨a, ea, u, t⟩ := R.slot i _ _ h hσ
  have e3 : σ[i]? = some (some (.ref a)) := hσ.trans (by rw [ea])
  have oa : Own ρ σ a := Own.root h rfl e3
  obtain ⟨vs, t1, t2⟩ := t
  refine ⟨a, vs, e3, t1, fun od => ?_⟩
  have neq : ∀ x o, H x = some o → x ≠ a → upd H a (.frz od (.dK vs)) x = some o := fun x o hx n => by rw [upd_ne n]; exact hx
  have P : Pres H U (upd H a (.frz od (.dK vs))) (fun x => U x ∧ x ≠ a) := fun x o hx n => ⟨neq x o hx fun e => n (e ▸ u), fun z => n z.1⟩
  have own' : ∀ x, Own (ρ.set i (.shr (.dik kvs))) σ x → Own ρ σ x ∧ x ≠ a := fun x ⟨j, s, o, q1, q2, q3⟩ => by
    rcases set_get q1 with ⟨e, rfl, _⟩ | ⟨ne, q1⟩
    · exact absurd q3 (reg_noW rfl)
    · exact ⟨⟨j, s, o, q1, q2, q3⟩, fun e => ne (R.inj i j _ _ _ _ a h q1 e3 q2 ⟨rfl, .inl rfl⟩ (e ▸ q3))⟩
  refine ⟨fun x => U x ∧ x ≠ a, by rw [List.length_set]; exact R.len, fun j s o q1 q2 => ?_, fun j e o q1 q2 => ?_, fun j k s t o o' x q1 q2 q3 q4 q5 q6 => ?_, fun x z => ?_, fun x o hx n => ?_, fun x o hx => ?_, fun x o h n z => R.shar x o h n z.1, fun x z n => ⟨R.up x z n, fun e => n (R.own0 (e ▸ oa) z)⟩, fun x z => R.new x (own' x z).1, fun j s l q1 q2 => ?_, R.wu, R.b0, R.u0⟩
  · rcases set_get q1 with ⟨e, rfl, _⟩ | ⟨ne, q1⟩
    · subst e
      rw [e3] at q2; cases q2
      refine ⟨_, rfl, ?_⟩
      simp only [Rp]
      exact ⟨a, od, vs, rfl, upd_same, fun z => z.2 rfl, RpK.pres P _ _ t2⟩
    · refine (R.slot j s o q1 q2).pres P fun x hx ux => ?_
      have nx : x ≠ a := fun e => by
        subst e
        exact ne (R.inj i j _ _ _ _ x h q1 e3 q2 ⟨rfl, .inl rfl⟩ hx)
      exact ⟨⟨ux, nx⟩, fun w hw => neq x w hw nx⟩
  · rcases set_get q1 with ⟨e1, e2, _⟩ | ⟨ne, q1⟩
    · cases e2
    · rcases R.bor j e o q1 q2 with ⟨v, e1, q⟩ | ⟨b, e1, q, n⟩
      · exact .inl ⟨v, e1, Rp.pres P e v q⟩
      · exact .inr ⟨b, e1, q.pres P fun x hx o' h' => neq x o' h' fun z => n x hx (z ▸ oa), fun x hx z => n x hx (own' x z).1⟩
  · rcases set_get q1 with ⟨e, rfl, _⟩ | ⟨ne, q1'⟩
    · exact absurd q5 (reg_noW rfl)
    · rcases set_get q2 with ⟨e, rfl, _⟩ | ⟨ne2, q2'⟩
      · exact absurd q6 (reg_noW rfl)
      · exact R.inj j k s t o o' x q1' q2' q3 q4 q5 q6
  · obtain ⟨o, ho⟩ := R.tr x z.1
    exact ⟨o, neq x o ho z.2⟩
  · refine neq x o (R.keep x o hx n) fun e => ?_
    subst e
    rcases R.new x oa with z | z
    · exact n z
    · rw [hx] at z; cases z
  · by_cases e : x = a
    · subst e; exact ⟨_, upd_same⟩
    · obtain ⟨o', ho⟩ := R.ktr x o hx
      exact ⟨o', neq x o' ho e⟩
  · rcases set_get q1 with ⟨e, rfl, _⟩ | ⟨ne, q1⟩
    · cases q2
    · exact R.lock j s l q1 q2
def sFrzK (i : Nat) (f : T3S) : T3S := fun E ρ => match ρ[i]? with
  | some (.own (.dic kvs)) => f E (ρ.set i (.shr (.dik kvs)))
  | _ => False
theorem simFrzK {t : TS} {f : T3S} (i : Nat) (h : SimS K t f) : SimS K (tFrzS i t) (sFrzK i f) := by
  intro F U ρ σ H D3 D2 e R q k
  have q : (match ρ[i]? with | some (.own (.dic kvs)) => f D3 (ρ.set i (.shr (.dik kvs))) | _ => False) := q
  cases hs : ρ[i]? with
  | none => rw [hs] at q; exact q.elim
  | some s =>
    rw [hs] at q
    cases s <;> first | exact q.elim | skip
    rename_i d
    cases d <;> first | exact q.elim | skip
    obtain ⟨a, vs, e3, t1, g⟩ := R.freezeK hs
    refine ⟨a, vs, e3, t1, fun od => ?_⟩
    obtain ⟨U', R'⟩ := g od
    exact h F U' _ σ _ D3 D2 e R' q k
/-- a frozen dict, read as any dict -/
def eAsD (f : T3E) : T3E := fun ρ Q => f ρ fun r ρ1 => match r with
  | .val (.dik kvs) => Q (.val (.dic kvs)) ρ1
  | _ => False
theorem simAsD {t : TE} {f : T3E} (h : SimE K t f) : SimE K t (eAsD f) := by
  intro F U ρ σ H Q3 Q2 e R q k
  refine h F U ρ σ H _ _ e R q fun r v ρ1 H1 R1 s1 q1 h1 => ?_
  cases r <;> first | exact h1.elim | skip
  rename_i d
  cases d <;> first | exact h1.elim | skip
  refine k (.val (.dic _)) v ρ1 H1 R1 s1 ?_ h1
  have q1 : Rp F.K H1 U (.dik _) v := q1
  show Rp F.K H1 U (.dic _) v
  simp only [Rp] at q1 ⊢
  obtain ⟨a, o, vs, e1, e2, e3, e4⟩ := q1
  exact ⟨a, vs, e1, .inr ⟨o, e2⟩, e3, e4⟩
/-- for k in d, d frozen -/
def kD : Key → D
  | .inl i => .int i
  | .inr s => .str s
theorem kD_rp {k : Key} : Rp K H U (kD k) (kV k) := by
  cases k with
  | inl i => simp only [kD, Rp]; rfl
  | inr s => simp only [kD, Rp]; rfl
theorem RpK.keys : ∀ {ds : List (Key × D)} {vs : List (Key × V)}, RpK K H U ds vs → vs.map (·.1) = ds.map (·.1)
  | [], _, h => by simp only [RpK] at h; subst h; rfl
  | (k, d) :: ds, _, h => by
    simp only [RpK] at h
    obtain ⟨v, r, rfl, _, h2⟩ := h
    simp [RpK.keys h2]
def iKy (f : T3E) : T3I := fun ρ Q => f ρ fun r ρ1 => match r with
  | .val (.dik kvs) => Q ⟨kvs.map fun p => kD p.1, .val .non⟩ ρ1
  | _ => False
theorem simIKy {t : TE} {f : T3E} (h : SimE K t f) : SimI K false (iKeys t) (iKy f) := by
  intro F U ρ σ H Q3 R2 e R q k
  refine h F U ρ σ H _ _ e R q fun r v ρ1 H1 R1 s1 q1 h1 => ?_
  cases r <;> first | exact h1.elim | skip
  rename_i d
  cases d <;> first | exact h1.elim | skip
  rename_i kvs
  have q1 : Rp F.K H1 U (.dik kvs) v := q1
  simp only [Rp] at q1
  obtain ⟨a, o, vs, rfl, e2, e3, e4⟩ := q1
  refine ⟨a, o, rfl, .inl ⟨vs, e2, k _ ⟨_, .val .non⟩ ρ1 H1 R1 s1 ?_ h1⟩⟩
  intro F2 U2 ρ2 σ2 H2 eK R2' p kp i
  have e5 := (p a _ e2 e3).1
  have ek := e4.keys
  have el : vs.length = kvs.length := by have := congrArg List.length ek; simpa using this
  refine ⟨fun d hd => ?_, fun hi => ⟨e5, by rw [List.length_map] at hi; omega⟩⟩
  have hi : i < kvs.length := by have := (List.getElem?_eq_some_iff.mp hd).1; rwa [List.length_map] at this
  refine ⟨⟨e5, by omega⟩, fun x H3 hy => ?_⟩
  obtain ⟨rfl, k', v', hk, rfl⟩ := hy
  refine ⟨fun _ _ h => h, .inl ?_⟩
  have : (vs.map (·.1))[i]? = some k' := by rw [List.getElem?_map, hk]; rfl
  rw [ek, List.getElem?_map] at this
  obtain ⟨pr, hp, rfl⟩ := Option.map_eq_some_iff.mp this
  rw [List.getElem?_map, hp] at hd
  cases hd
  exact kD_rp
/-! ### str(i), sum(..), d.get(k), list(d) -/
def cStr (rs : List Rs) (ρ : En) (Q : Rs → En → Prop) : Prop := w1 rs ρ fun d => match d with
  | .int i => i.natAbs.log2 < 1920 ∧ Q (.val (.str (toString i))) ρ
  | _ => False
end
end L3

set_option Elab.async false
set_option linter.all false
set_option maxRecDepth 100000
namespace L3
open PySem PySem.Spec L2
open PyProof.Rows (b2i envOfC)
section
variable {F : Fr} {U U2 : US} {ρ ρ' ρ2 : En} {σ σ2 : L2.St} {H H' H2 : Hp} {K : PySem.W.Frag}
theorem simStrI : SimCR K (fun xs H Q => ∃ i, xs = [.int i] ∧ i.natAbs.log2 < 1920 ∧ Q (.str (toString i)) H) cStr := by
  intro F U ρ σ H vs rs Q3 Q2 e R q h k
  obtain ⟨x, v, d, rfl, rfl, q1, e1, h⟩ := w1_out q h
  cases d <;> first | exact h.elim | skip
  exact ⟨_, by rw [q1.int R e1], h.1, k (.val (.str _)) _ _ _ R (.refl R) (show Rp _ _ _ _ _ from rp_str) h.2⟩
/-- sum(..) of ints -/
def intsOf : List D → Option (List Int)
  | [] => some []
  | .int i :: ds => (intsOf ds).map (i :: ·)
  | _ => none
theorem ints_rp : ∀ {ds : List D} {vs : List V} {ns : List Int}, RpAll K H U ds vs → intsOf ds = some ns → vs = ns.map V.int
  | [], _, ns, h, e => by
    simp only [intsOf] at e; cases e
    simp only [RpAll] at h; exact h
  | d :: ds, _, ns, h, e => by
    cases d <;> first | (simp only [intsOf] at e; cases e; done) | skip
    simp only [intsOf] at e
    obtain ⟨ns', e1, rfl⟩ := Option.map_eq_some_iff.mp e
    simp only [RpAll, Rp] at h
    obtain ⟨v, r, rfl, rfl, h2⟩ := h
    rw [ints_rp h2 e1]; rfl
def cSum (rs : List Rs) (ρ : En) (Q : Rs → En → Prop) : Prop := w1 rs ρ fun d => match d with
  | .lst ds => wo (intsOf ds) fun ns => Q (.val (.int ns.sum)) ρ
  | _ => False
theorem simSum : SimCR K (rSum K) cSum := by
  intro F U ρ σ H vs rs Q3 Q2 e R q h k
  subst e
  obtain ⟨x, v, d, rfl, rfl, q1, e1, h⟩ := w1_out q h
  cases d <;> first | exact h.elim | skip
  obtain ⟨a, vs, rfl, z1, z2⟩ := q1.lst R e1
  obtain ⟨ns, en, h⟩ := wo_out h
  have ev := ints_rp z2 en
  subst ev
  exact ⟨a, ns, rfl, z1, k (.val (.int _)) _ _ _ R (.refl R) (show Rp _ _ _ _ _ from rp_int) h⟩
/-- d.get(k) -/
def eDG1 (fd fy : T3E) : T3E := fun ρ Q => fd ρ fun x ρ1 => wd x ρ1 fun dx => match dx with
  | .dic _ => fy ρ1 fun y ρ2 => wdk x y ρ2 fun kvs k => Q (.val ((getD' kvs k).getD .non)) ρ2
  | _ => False
theorem simDG1 {td ty : TE} {fd fy : T3E} (h : SimE K td fd) (hy : SimE K ty fy) : SimE K (tDGet1 td ty) (eDG1 fd fy) := by
  intro F U ρ σ H Q3 Q2 e R q k
  refine h F U ρ σ H _ _ e R q fun x v ρ1 H1 R1 s1 q1 h1 => ?_
  obtain ⟨d, ed, h1⟩ := wd_out h1
  cases d <;> first | exact h1.elim | skip
  obtain ⟨a, vs, rfl, z1, z2⟩ := q1.dic R1 ed
  refine ⟨a, rfl, .inl ⟨vs, z1⟩, hy F U ρ1 σ H1 _ _ e R1 h1 fun y w ρ2 H2 R2 s2 q2 h2 => ?_⟩
  have q1' : RV F U σ H2 x (.ref a) := q1.pres (s2.pres R1)
  obtain ⟨a', kvs, ws, j, ea, y1, y2, rfl, h4⟩ := wdk_out R2 q1' q2 h2
  cases ea
  refine ⟨valV ws j, .inl ⟨ws, j, y1, rfl, rfl⟩, ?_⟩
  rcases y2.get j with ⟨n, n'⟩ | ⟨d', v', n, ev, rv⟩
  · rw [n']; rw [n] at h4
    exact k (.val .non) .non ρ2 H2 R2 (s1.trans s2) (show Rp F.K H2 U .non .non from rp_non) h4
  · rw [ev]; rw [n] at h4
    exact k (.val d') v' ρ2 H2 R2 (s1.trans s2) rv h4
/-- list(d), d a dict -/
def oListK (g : T3A) : T3O' := fun ρ Q => g ρ fun rs ρ1 => w1 rs ρ1 fun d => match d with
  | .dic kvs => Q (.lst (kvs.map fun p => kD p.1)) ρ1
  | _ => False
theorem keysAll : ∀ {ds : List (Key × D)} {vs : List (Key × V)}, RpK K H U ds vs → RpAll K H U (ds.map fun p => kD p.1) (vs.map fun kv => kV kv.1)
  | [], _, h => by simp only [RpK] at h; subst h; simp only [List.map_nil, RpAll]
  | (k, d) :: ds, _, h => by
    simp only [RpK] at h
    obtain ⟨v, r, rfl, _, h2⟩ := h
    simp only [List.map_cons, RpAll]
    exact ⟨_, _, rfl, kD_rp, keysAll h2⟩
theorem simOListK {u : TA} {g : T3A} (h : SimA K u g) : SimEO K (tCB (fun xs H Q => ∃ (a : Addr) (kvs : List (Key × V)), xs = [.ref a] ∧ Rd H a (.dK kvs) ∧ ∀ p, H p = none → Q (.ref p) (upd H p (.lst (kvs.map fun kv => kV kv.1)))) u) (oListK g) := by
  intro F U ρ σ H Q3 Q2 e R q k
  refine h F U ρ σ H _ _ e R q fun rs vs ρ1 H1 R1 s1 q1 h1 => ?_
  obtain ⟨x, v, d, rfl, rfl, q1, e1, h⟩ := w1_out q1 h1
  cases d <;> first | exact h.elim | skip
  obtain ⟨a, vs, rfl, z1, z2⟩ := q1.dic R1 e1
  refine ⟨a, vs, rfl, z1, fun p hp => ?_⟩
  obtain ⟨R2, S2, P2⟩ := freshEO R1 (o := .lst (vs.map fun kv => kV kv.1)) hp
  exact k (.lst _) p ρ1 _ R2 (s1.trans S2) (back_none s1 hp) ⟨_, upd_same, RpAll.pres P2 _ _ (keysAll z2)⟩ h
/-- {e: e', ..}, the keys ints and texts -/
def dPairsG : List (T3E × T3E) → En → (List (Key × D) → En → Prop) → Prop
  | [], ρ, Q => Q [] ρ
  | (kf, f) :: r, ρ, Q => kf ρ fun y ρ0 => match y with
    | .val dk => wo dk.key fun j => f ρ0 fun x ρ1 => match x with
      | .val d => dPairsG r ρ1 fun kvs ρ2 => Q ((j, d) :: kvs) ρ2
      | _ => False
    | _ => False
def oDispG (ps : List (T3E × T3E)) : T3O' := fun ρ Q => dPairsG ps ρ fun kvs ρ1 => kvs.length ≤ 15 ∧ Q (.dic (mergeD [] kvs)) ρ1
inductive SimPG (K : PySem.W.Frag) : List (TE × TE) → List (T3E × T3E) → Prop
  | nil : SimPG K [] []
  | cons {tk t : TE} {kf f : T3E} {r : List (TE × TE)} {r3 : List (T3E × T3E)} : SimE K tk kf → SimE K t f → SimPG K r r3 → SimPG K ((tk, t) :: r) ((kf, f) :: r3)
theorem simPairsG {r : List (TE × TE)} {r3 : List (T3E × T3E)} (h : SimPG K r r3) : ∀ (F : Fr) (U : US) (ρ : En) (σ : L2.St) (H : Hp) (Q3 : List (Key × D) → En → Prop) (Q2 : List (V × V) → Hp → Prop), F.K = K → Rel F U ρ σ H → dPairsG r3 ρ Q3 →
    (∀ kvs ws ρ' H', Rel F U ρ' σ H' → Stp ρ σ H ρ' H' → RpK F.K H' U kvs ws → Q3 kvs ρ' → Q2 (ws.map fun kv => (kV kv.1, kv.2)) H') → tPairs r σ H Q2 := by
  induction h with
  | nil => exact fun F U ρ σ H Q3 Q2 e R q k => k [] [] ρ H R (.refl R) (by simp only [RpK]) q
  | @cons tk t kf f r r3 hk h _ ih =>
    intro F U ρ σ H Q3 Q2 e R q k
    refine hk F U ρ σ H _ _ e R q fun y w ρ0 H0 R0 s0 q0 h0 => ?_
    cases y with
    | sl _ => exact h0.elim
    | bx _ _ _ => exact h0.elim
    | val dk =>
      obtain ⟨j, ej, h0⟩ := wo_out h0
      have ew := key_out ej (show Rp F.K H0 U dk w from q0)
      subst ew
      refine h F U ρ0 σ H0 _ _ e R0 h0 fun x v ρ1 H1 R1 s1 q1 h1 => ?_
      cases x with
      | sl _ => exact h1.elim
      | bx _ _ _ => exact h1.elim
      | val d =>
        refine ih F U ρ1 σ H1 _ _ e R1 h1 fun kvs ws ρ2 H2 R2 s2 q2 h2 => ?_
        refine k ((j, d) :: kvs) ((j, v) :: ws) ρ2 H2 R2 ((s0.trans s1).trans s2) ?_ h2
        simp only [RpK]
        exact ⟨v, ws, rfl, Rp.pres (s2.pres R1) _ _ q1, q2⟩
theorem simODispG {r : List (TE × TE)} {r3 : List (T3E × T3E)} (h : SimPG K r r3) : SimEO K (tDisp r) (oDispG r3) := by
  intro F U ρ σ H Q3 Q2 e R q k p hp
  obtain ⟨R1, S1, P1⟩ := freshEO R (o := .dK []) hp
  refine simPairsG h F _ ρ σ _ _ _ e R1 q fun kvs ws ρ2 H2 R2 s2 q2 h2 => ?_
  have no : ¬ Own ρ σ p := fun z => R.noU hp (R.ownU z)
  have e2 : H2 p = some (.dK []) := s2.keep p _ upd_same no
  have S2 : Stp ρ σ H ρ2 H2 := S1.trans s2
  refine ⟨e2, ws, rfl, by rw [q2.len]; exact h2.1, ?_⟩
  have no2 : ¬ Own ρ2 σ p := fun z => no (s2.own p z)
  have Pw : Pres H2 (fun b => U b ∨ b = p) (upd H2 p (.dK (mergeK [] ws))) (fun b => U b ∨ b = p) := fun x o h n => ⟨by rw [upd_ne (fun e => n (.inr e))]; exact h, n⟩
  refine k (.dic (mergeD [] kvs)) p ρ2 _ ?_ ⟨fun x o h n => ?_, S2.own, fun x o h => ?_⟩ hp ⟨_, upd_same, RpK.pres Pw _ _ (q2.merge (by simp only [RpK]))⟩ h2.2
  · -- a write at p, which no slot owns
    exact R2.poke no2 (.inr rfl) (up_new R hp)
  · have nx : x ≠ p := fun e => by subst e; rw [hp] at h; cases h
    rw [upd_ne nx]; exact S2.keep x o h n
  · by_cases e : x = p
    · subst e; exact ⟨_, upd_same⟩
    · obtain ⟨o', h'⟩ := S2.tr x o h
      exact ⟨o', by rw [upd_ne e]; exact h'⟩

end
section
variable {ι : Type} {X : ι → Cx} {K : PySem.W.Frag} {pos p apos cpos : Pos} {e a b o : Expr} {x : Str} {f g : T3E} {fa : T3A} {st : Stmt} {fs : T3S} {tg : Expr}
theorem sfrzK (n : Nat) (h : QS K X st fs) : QS K X st (sFrzK n fs) := let ⟨t, a1, a2⟩ := h.ex; ⟨tFrzS n t, fun i => ps_frzS n (a1 i), simFrzK n a2⟩
theorem qasd (h : QE K X e f) : QE K X e (eAsD f) := let ⟨t, a1, a2⟩ := h.ex; ⟨t, a1, simAsD a2⟩
theorem ikys (h : QE K X e f) : QI K X false tg e (iKy f) := let ⟨t, a1, a2⟩ := h.ex; ⟨iKeys t, fun i => pi_keys (a1 i), simIKy a2⟩
theorem qstr1 (hm : ∀ i, (X i).mg "str" = none) (ha : QA K X [e] fa) (hg : ∀ i, Gl (X i) "str" := by exact fun _ => rfl)
    (hst : ∀ i, starEach [e] (X i).env = (false, eval e (X i).env) :: starEach [] (X i).env := by exact fun _ => rfl) (hpl : ∀ i, (backTo pos (starEach [] (X i).env)).any (·.1) = false := by exact fun _ => rfl) : QE K X (.Call (.Name "str" p) [e] [] pos) (eCB cStr fa) := qct (fun i => call_str_int) simStrI hm (by first | exact PyProof.Rows.boot_str | rfl) ha hg (by decide) (by decide) hst hpl
theorem qsum (hc : ∀ i, (X i).calm = true) (hm : ∀ i, (X i).mg "sum" = none) (ha : QA K X [e] fa) (hg : ∀ i, Gl (X i) "sum" := by exact fun _ => rfl) (hK : ∀ i, (X i).K = K := by exact fun _ => rfl)
    (hst : ∀ i, starEach [e] (X i).env = (false, eval e (X i).env) :: starEach [] (X i).env := by exact fun _ => rfl) (hpl : ∀ i, (backTo pos (starEach [] (X i).env)).any (·.1) = false := by exact fun _ => rfl) : QE K X (.Call (.Name "sum" p) [e] [] pos) (eCB cSum fa) := qcb (fun i => hK i ▸ cr_sum (hc i)) simSum hm (by first | exact PyProof.Rows.boot_sum | rfl) ha hg (by decide) (by decide) hst hpl
theorem qdg1 {k : Nat} (hR : ∀ i, Room k (X i).A) (ho : QE K X o f) (he : QE K X a g) (m : ∀ i, M1 (X i) o "get" apos a cpos := by exact fun _ => ⟨rfl, rfl, rfl, rfl⟩) : QE K X (.Call (.Attribute o "get" apos) [a] [] cpos) (eDG1 f g) :=
  let ⟨_, a1, a2⟩ := ho.ex; let ⟨_, b1, b2⟩ := he.ex; ⟨_, fun i => pe_dget1 (hu_of (hR i)) (a1 i) (b1 i) (m i), simDG1 a2 b2⟩
theorem olistK (hc : ∀ i, (X i).calm = true) (hm : ∀ i, (X i).mg "list" = none) (ha : QA K X [e] fa) (hg : ∀ i, Gl (X i) "list" := by exact fun _ => rfl)
    (hst : ∀ i, starEach [e] (X i).env = (false, eval e (X i).env) :: starEach [] (X i).env := by exact fun _ => rfl) (hpl : ∀ i, (backTo pos (starEach [] (X i).env)).any (·.1) = false := by exact fun _ => rfl) : QO K X (.Call (.Name "list" p) [e] [] pos) (oListK fa) :=
  let ⟨u, h1, h2⟩ := ha.ex; ⟨_, fun i => pe_callTy (call_listD (hc i)) (hg i) (hm i) PyProof.Rows.boot_list (h1 i) (by decide) (by decide) (hst i) (hpl i), simOListK h2⟩
structure QDG {ι : Type} (K : PySem.W.Frag) (X : ι → Cx) (pos : Pos) (ks : List (Option Expr)) (vs : List Expr) (ps : List (T3E × T3E)) : Prop where
  ex : ∃ t, (∀ i, PPs (X i) pos ks vs t) ∧ SimPG K t ps
theorem qdgn : QDG K X pos [] [] [] := ⟨_, fun _ => pps_nil, .nil⟩
theorem qdgc {k v : Expr} {ks : List (Option Expr)} {vs : List Expr} {ps : List (T3E × T3E)} (hk : QE K X k g) (hv : QE K X v f) (hr : QDG K X pos ks vs ps) : QDG K X pos (some k :: ks) (v :: vs) ((g, f) :: ps) :=
  let ⟨_, h0, h9⟩ := hk.ex; let ⟨_, h1, h2⟩ := hv.ex; let ⟨_, h3, h4⟩ := hr.ex; ⟨_, fun i => pps_cons (h0 i) (h1 i) (h3 i), .cons h9 h2 h4⟩
theorem odispG {keys : List (Option Expr)} {values : List Expr} {ps : List (T3E × T3E)} (h : QDG K X pos keys values ps) (hall : keys.all (·.isSome) = true := by rfl) (hl : keys.length = values.length := by rfl) (h0 : keys ≠ [] := by exact fun z => by cases z)
    (h15 : keys.length ≤ 15 := by decide) : QO K X (.Dict keys values pos) (oDispG ps) := let ⟨_, h1, h2⟩ := h.ex; ⟨_, fun i => pe_disp (h1 i) hall hl h0 h15, simODispG h2⟩
end
end L3

set_option Elab.async false
set_option linter.all false
set_option maxRecDepth 100000
/-! list.extend of a tuple; tuple[::-1] -/
namespace L3
open PySem PySem.Spec L2
open PyProof.Rows (IsTup)
section
variable {prog : Program} {w : World} {A : Around} {E : Value → Shared → Prop} {s : Shared}
theorem list_extend_tup (l b : Addr) (items items2 : Array Value) (n : Nat) (hlong : ¬ (!items.isEmpty && Builtin.List.listTooLong (items.size + items2.size)) = true) (hs1 : items.size ≤ sizeLine) (hs2 : items.size + items2.size ≤ sizeLine + 1) :
    Meets (Builtin.«list.extend» ⟨[.ref l, .ref b], []⟩) (fun _ R s => s.heap.get? l = some { cls := .type "list", dict := none, data := .seq items n, slots := #[] } ∧ IsTup s.heap b items2 ∧ R (.ok (.ret Value.none)) { s with heap := s.heap.update l (Obj.mapSeq fun x => x ++ items2) }) := by
  rintro prog w A R s ⟨hl, ⟨o, ho, hc, m, hd⟩, h⟩
  have hz' : (items ++ items2).size ≤ sizeLine + 1 := by rw [Array.size_append]; exact hs2
  show wpAny _ A.in1 (Builtin.List.listExtendWith (.ref l) (.ref b) .none) _ _ s
  unfold Builtin.List.listExtendWith
  refine wpAny_bind (wpAny_typeOf ⟨o, ho, hc⟩ ?_)
  have h1 : (Builtin.List.listSameRef (.ref l) (.ref b) || Value.type "tuple" == Value.type "list" || Value.type "tuple" == Value.type "tuple") = true := by simp
  simp only [h1, if_true]
  refine wpAny_bind ?_
  unfold Builtin.List.listItems
  refine wpAny_bind (wpAny_seqItems ho hd (wpAny_pure ?_))
  refine wpAny_bind ?_
  refine wpAny_bind (wpAny_seqItems hl rfl (wpAny_pure ?_))
  rw [if_neg hlong]
  show wpAny _ A.in1 (updateSeq l (· ++ items2) >>= fun _ => ret .none) _ _ s
  refine wpAny_bind (wpAny_updateSeq hl rfl (hz := hs1) (_hz' := hz') ?_)
  exact wpAny_pure h
end
end L3
namespace HT
open PySem PySem.Spec PyProof.Rows
section
variable {prog : Program} {w : World} {A : Around} {E : Value → Shared → Prop} {s : Shared}
theorem adjust_rev (n : Nat) : Builtin.Slice.sliceAdjust none none (-1) (n : Int) = ((n : Int) - 1, -1) := by
  unfold Builtin.Slice.sliceAdjust
  simp
theorem places_rev (n : Nat) : Builtin.Slice.slicePlaces ((n : Int) - 1) (-1) (-1) = n := by
  unfold Builtin.Slice.slicePlaces
  have h1 : ¬ ((-1 : Int) > 0) := by omega
  simp only [h1, if_false]
  have e : ((n : Int) - 1 - -1 - 1) / - -1 = n - 1 := by
    rw [show ((n : Int) - 1 - -1 - 1) = n - 1 by omega, show (- -1 : Int) = 1 by decide, Int.ediv_one]
  rw [e]
  split <;> omega
theorem pick_rev (xs : Array Value) : ((List.range xs.size).filterMap fun (m : Nat) => xs[(((xs.size : Int) - 1) + (m : Int) * (-1)).toNat]?).toArray = xs.toList.reverse.toArray := by
  have e : (fun (m : Nat) => xs[(((xs.size : Int) - 1) + (m : Int) * (-1)).toNat]?) = (fun j => xs[j]?) ∘ (fun m => xs.size - 1 - m) := by
    funext m
    have : (((xs.size : Int) - 1) + (m : Int) * (-1)).toNat = xs.size - 1 - m := by omega
    rw [this]; rfl
  rw [e, ← List.filterMap_map, PySem.W.krv_range, List.filterMap_reverse, PySem.W.krv_all]
theorem sliceApplied_rev {sl : Addr} {vs : Value} {n : Nat} {Q : Int × Int × Nat → Shared → Prop} (hs : s.heap.IsSliceOf sl .none .none vs) (ps : IsPart vs (some (-1)))
    (h : Q ((n : Int) - 1, -1, n) s) : wpAny (model prog w) A (Builtin.Slice.sliceApplied (.ref sl) (pure (n : Int))) Q E s := by
  obtain ⟨os, hos, hcs, hds⟩ := id hs
  unfold Builtin.Slice.sliceApplied Builtin.Slice.sliceFields
  refine wpAny_bind (wpAny_bind (wpAny_field hos hds (x := .none) rfl (wpAny_bind (wpAny_field hos hds (x := .none) rfl (wpAny_bind (wpAny_field hos hds (x := vs) rfl (wpAny_pure ?_)))))))
  refine wpAny_bind (slicePart_ ps ?_)
  show wpAny _ _ (if ((-1 : Int) == 0) = true then _ else _) _ _ s
  rw [if_neg (by decide)]
  refine wpAny_bind (slicePart_ .none (wpAny_bind (slicePart_ .none (wpAny_bind (wpAny_pure ?_)))))
  show wpAny _ _ (match Builtin.Slice.sliceAdjust none none (-1) (n : Int) with | (lo, hi) => pure (lo, (-1 : Int), Builtin.Slice.slicePlaces lo hi (-1))) _ _ s
  rw [adjust_rev n]
  show wpAny _ _ (pure ((n : Int) - 1, (-1 : Int), Builtin.Slice.slicePlaces ((n : Int) - 1) (-1) (-1))) _ _ s
  rw [places_rev]
  exact wpAny_pure h
theorem getItem_tuple_rev {t sl : Addr} {items : Array Value} {vs : Value} {Q : Value → Shared → Prop} (ht : IsTup s.heap t items) (hs : s.heap.IsSliceOf sl .none .none vs) (ps : IsPart vs (some (-1)))
    (h : Q (.ref s.heap.objs.size) { s with heap := s.heap.push { cls := .type "tuple", data := .seq items.toList.reverse.toArray } })
    (hsz : items.size ≤ sizeLine) : wpAny (model prog w) A (getItem (.ref t) (.ref sl)) Q E s := by
  have htake : sizeOk (.seq items.toList.reverse.toArray) := by
    show items.toList.reverse.toArray.size ≤ sizeLine
    rw [List.size_toArray, List.length_reverse, Array.length_toList]; exact hsz
  obtain ⟨os, hos, hcs, hds⟩ := id hs
  have hTs : s.TypeIs (.ref sl) "slice" := ⟨os, hos, hcs⟩
  unfold getItem
  try with_reducible refine wpAny_holding ?_
  first | refine wpAny_bind (wpAny_pure ?_) | skip
  refine wpAny_bind (wpAny_sequenceKey ht.typeIs (by decide) ?_)
  refine wpAny_bind (wpAny_callSpecial?_slot (name := Str.ofString "__getitem__") ht.typeIs PyProof.Rows.slot_tuple_getitem
    (wpAny_call_entry PyProof.Rows.slot_tuple_getitem ht.typeIs entry_tuple_getitem ?_ (args_tuple_getitem _ _)))
  show wpAny _ _ (Builtin.Tuple.tupleItemsOf (.ref t) >>= _) _ _ s
  refine wpAny_bind (tupleItemsOf_ ht ?_)
  refine wpAny_bind (wpAny_typeOf hTs ?_)
  rw [if_pos (by decide)]
  refine wpAny_bind (sliceApplied_rev hs ps ?_)
  have hno : ¬ ((((items.size : Int) - 1) == 0 && (-1 : Int) == 1 && items.size == items.size) = true) := by
    intro q
    rw [Bool.and_eq_true, Bool.and_eq_true] at q
    exact absurd q.1.2 (by decide)
  show wpAny _ _ (if (((items.size : Int) - 1) == 0 && (-1 : Int) == 1 && items.size == items.size) = true then _ else _) _ _ s
  rw [if_neg hno, pick_rev]
  first
    | exact wpAny_bind (m := Builtin.Tuple.tupleExact _) (wpAny_newObj_type (wpAny_pure ⟨_, rfl, wpAny_pure h⟩) htake)
    | exact wpAny_bind (m := Builtin.Tuple.tupleExact _) (wpAny_newObj_type (wpAny_bind (wpAny_pure (wpAny_pure ⟨_, rfl, wpAny_pure h⟩))) htake)
    | exact wpAny_bind (wpAny_bind (m := Builtin.Tuple.tupleExact _) (wpAny_newObj_type (wpAny_pure (wpAny_pure ⟨_, rfl, wpAny_pure h⟩)) htake))
    | exact wpAny_bind (wpAny_bind (m := Builtin.Tuple.tupleExact _) (wpAny_newObj_type (wpAny_pure ⟨_, rfl, wpAny_pure h⟩) htake))
end
end HT
namespace L2
open PySem PySem.Spec PyProof.Rows L3
def rExtendT (K : PySem.W.Frag) : V → List V → Hp → VK → Prop := fun x vs H Q => ∃ l b xs zs, x = .ref l ∧ vs = [.ref b] ∧ H l = some (.lst xs) ∧ SqT K H b zs ∧ xs.length + zs.length ≤ sizeLine ∧ Q .non (upd H l (.lst (xs ++ zs)))
theorem mt_extendT {X : Cx} : MtM X "list.extend" (rExtendT X.K) := by
  intro pins s σ H x vs v us Q I rx rv h
  obtain ⟨l, b, xs, zs, rfl, rfl, hH, hB, hz, q⟩ := h
  cases rx
  obtain ⟨u, rfl, ru⟩ := rv.one
  cases ru
  obtain ⟨z, its, n, r, hl, e⟩ := I.lstM hH
  obtain ⟨its2, r2, e2, hl2⟩ := I.tuple hB
  have hlen2 := r2.length
  have hsz : its.toArray.size + its2.toArray.size ≤ sizeLine := by rw [List.size_toArray, List.size_toArray]; omega
  have hlong : ¬ (!its.toArray.isEmpty && Builtin.List.listTooLong (its.toArray.size + its2.toArray.size)) = true := by
    rw [notLongL hsz, Bool.and_false]
    exact Bool.false_ne_true
  refine call_meets F.slot_list_extend ⟨_, e, rfl⟩ F.entry_list_extend (F.args_list_extend_2 _ _)
    (list_extend_tup l b its.toArray its2.toArray n hlong (by rw [List.size_toArray]; omega) (by omega)) ⟨e, e2, ?_⟩
  refine ⟨.non, _, I.lset (its' := its ++ its2) (t' := s.toks) hH e (by simp) (r.append r2) ?_, rfl, q⟩
  rw [List.length_append]
  omega
theorem mt_extendX {X : Cx} {K : PySem.W.Frag} (hK : X.K = K) : MtR X "list.extend" (rExtendT K) := hK ▸ mt_extendT
def tRevT (K : PySem.W.Frag) (te : TE) : TE := fun σ H Q => te σ H fun x H1 => ∃ a xs, x = .ref a ∧ SqT K H1 a xs ∧ ∀ (p : Addr) (o : Obj), H1 p = none → o.dict = none → Q (.ref p) (upd H1 p (.frz o (.tup xs.reverse)))
theorem pe_revT {X : Cx} {e : Expr} {te : TE} {k : Nat} {p1 p2 p3 pos : Pos} (he : PE X e te) : PE X (.Subscript e (.Slice none none (some (.UnaryOp .USub (.Constant (.int 1) k p1) p2)) p3) pos) (tRevT X.K te) := by
  refine ⟨fun pins s σ H Q I h => ?_⟩
  refine Subscript_ (thn (he.run pins s σ H _ I h) fun v s1 ⟨x, H1, I1, r1, q1⟩ => ?_)
  obtain ⟨a, xs, ex, hx, q⟩ := q1
  subst ex
  cases r1
  have hst : PO X (some (.UnaryOp .USub (.Constant (.int 1) k p1) p2)) (tPart (tUn (rU fun i => .int (-i)) (tC (.int 1)))) := po_some (pe_un un_neg pe_int)
  refine wpAny_Slice (thn (po_none.run pins s1 σ H1 (fun o H2 => o = none ∧ H2 = H1) I1 ⟨rfl, rfl⟩) fun vl s2 ⟨l, H2, I2, pl, el, e2⟩ => ?_)
  subst el e2
  refine thn (po_none.run pins s2 σ H2 (fun o H3 => o = none ∧ H3 = H2) I2 ⟨rfl, rfl⟩) fun vu s3 ⟨u, H3, I3, pu, eu, e3⟩ => ?_
  subst eu e3
  refine thn (hst.run pins s3 σ H3 (fun o H4 => o = some (-1) ∧ H4 = H3) I3 ⟨1, rfl, -1, rfl, rfl, rfl⟩) fun vs s4 ⟨o, H4, I4, ps, eo, e4⟩ => ?_
  subst eo e4
  cases pl
  cases pu
  have I5 : Inv X pins σ H4 { s4 with heap := s4.heap.push { cls := .type "slice", data := .fields #[.none, .none, vs] } } := I4.kept (t' := s4.toks) fun b ob q => Heap.get?_push_of_some _ q
  obtain ⟨its, r, ht, hz⟩ := I5.tuple hx
  have hlen := r.length
  show wpAny (model X.prog X.w) X.A (subscriptTail e (.Slice none none (some (.UnaryOp .USub (.Constant (.int 1) k p1) p2)) p3) (.ref a) (.ref s4.heap.objs.size)) (EP X pins σ Q) X.xe { s4 with heap := s4.heap.push { cls := .type "slice", data := .fields #[.none, .none, vs] } }
  refine tail_any (ops := [.ref a, .ref s4.heap.objs.size]) ht.typeIs (PyProof.Rows.slot_tuple_getitem.lookup) ?_ (by with_unfolding_all rfl)
  refine HT.getItem_tuple_rev ht (Heap.IsSliceOf.new _ .none .none vs) ps ?_ (by rw [List.size_toArray]; omega)
  refine ⟨.ref _, _, tnewI I5 (t' := s4.toks) r.reverse ?_, rfl, q _ (tupObj _) (I5.hok.fresh (Nat.le_refl _)) rfl⟩
  rw [List.length_reverse]; exact hz
end L2
namespace L3
open PySem PySem.Spec L2
section
variable {F : Fr} {U U2 : US} {ρ ρ' ρ2 : En} {σ σ2 : L2.St} {H H' H2 : Hp} {K : PySem.W.Frag}
def mExtendT : M3 := fun r rs ρ Q => match rs with
  | [x] => wd x ρ fun dx => match dx with
    | .tup es => ww r ρ fun dl up => match dl with
      | .lst ds => ds.length + es.length ≤ sizeLine ∧ Q (.val .non) (up (.lst (ds ++ es)))
      | _ => False
    | _ => False
  | _ => False
theorem simExtendT : SimM K (rExtendT K) mExtendT := by
  intro F U ρ σ H x vs rx rs Q3 Q2 e R q qs h k
  subst e
  unfold mExtendT at h
  cases qs with
  | nil => exact h.elim
  | cons q1 qs =>
    cases qs with
    | cons _ _ => exact h.elim
    | nil =>
      obtain ⟨di, ei, h⟩ := wd_out h
      cases di <;> first | exact h.elim | skip
      rename_i es
      obtain ⟨dl, up, a, rfl, u, t, wr, h⟩ := ww_out R q h
      cases dl <;> first | exact h.elim | skip
      rename_i ds
      obtain ⟨ws, z1, z2⟩ := t
      obtain ⟨b, zs, rfl, y1, y2, _⟩ := q1.tup R ei
      obtain ⟨R', S'⟩ := wr (lstW R u (z2.app y2))
      exact ⟨a, b, ws, zs, rfl, rfl, z1, y1, by rw [z2.len, y2.len]; exact h.1, k (.val .non) .non _ _ R' S' rvN h.2⟩
def eRevT (f : T3E) : T3E := fun ρ Q => f ρ fun r ρ1 => wd r ρ1 fun d => match d with
  | .tup ds => Q (.val (.tup ds.reverse)) ρ1
  | _ => False
theorem simRevT {t : TE} {f : T3E} (h : SimE K t f) : SimE K (tRevT K t) (eRevT f) := by
  intro F U ρ σ H Q3 Q2 e R q k
  refine h F U ρ σ H _ _ e R q fun r v ρ1 H1 R1 s1 q1 h1 => ?_
  subst e
  obtain ⟨d, e1, h1⟩ := wd_out h1
  cases d <;> first | exact h1.elim | skip
  obtain ⟨a, vs, rfl, z1, z2, _⟩ := q1.tup R1 e1
  exact ⟨a, vs, rfl, z1, fun p o hp ho => k (.val (.tup _)) _ ρ1 _ (R1.ext (ext_new hp)) (s1.trans (.ext (ext_new hp))) (rp_newT R1 ho hp z2.rev) h1⟩
end
section
variable {ι : Type} {X : ι → Cx} {K : PySem.W.Frag} {pos p : Pos} {e : Expr} {f : T3E}
theorem qrevT {k : Nat} {p1 p2 p3 : Pos} (h : QE K X e f) (hK : ∀ i, (X i).K = K := by exact fun _ => rfl) : QE K X (.Subscript e (.Slice none none (some (.UnaryOp .USub (.Constant (.int 1) k p1) p2)) p3) pos) (eRevT f) :=
  let ⟨t, h1, h2⟩ := h.ex; ⟨tRevT K t, fun i => hK i ▸ pe_revT (h1 i), simRevT h2⟩
end
end L3

set_option Elab.async false
set_option linter.all false
set_option maxRecDepth 100000
set_option autoImplicit false
set_option maxHeartbeats 0
namespace L3
open PySem
/-! ### steps at the level of data -/
section
theorem ifs {c : Prop} [Decidable c] {A B : Prop} (h1 : c → A) (h2 : ¬ c → B) : if c then A else B := by
  by_cases h : c
  · rw [if_pos h]; exact h1 h
  · rw [if_neg h]; exact h2 h
theorem ift {c : Prop} [Decidable c] {A B : Prop} (h : c) (h1 : A) : if c then A else B := by rw [if_pos h]; exact h1
theorem ife {c : Prop} [Decidable c] {A B : Prop} (h : ¬ c) (h1 : B) : if c then A else B := by rw [if_neg h]; exact h1
theorem wo_in {α : Type} {o : Option α} {k : α → Prop} {x : α} (e : o = some x) (h : k x) : wo o k := by rw [e]; exact h
theorem atI_nat {ds : List D} {n : Nat} {d : D} (h : ds[n]? = some d) : L2.atI ds (n : Int) = some d := by
  have hn : n < ds.length := (List.getElem?_eq_some_iff.mp h).1
  unfold L2.atI L2.ixN
  rw [if_pos (by omega), if_pos (by omega)]
  simpa using h
theorem atI_int {ds : List D} {i : Int} {d : D} (h0 : 0 ≤ i) (h : ds[i.toNat]? = some d) : L2.atI ds i = some d := by
  have := atI_nat h
  rwa [Int.toNat_of_nonneg h0] at this
theorem ixN_nat {m n : Nat} (h : n < m) : L2.ixN m (n : Int) = some n := by
  unfold L2.ixN
  rw [if_pos (by omega), if_pos (by omega)]
  simp
theorem ixN_int {m : Nat} {i : Int} (h0 : 0 ≤ i) (h : i < m) : L2.ixN m i = some i.toNat := by
  have := ixN_nat (m := m) (n := i.toNat) (by omega)
  rwa [Int.toNat_of_nonneg h0] at this
theorem pm (j : Int) (h : decide (0 < j) = true) : 0 < j := of_decide_eq_true h
theorem cm {i j : Int} (h : -(2 ^ 64) < j ∧ j < 2 ^ 64) : L2.CMul i j := .inr h
theorem unF {s : Sl} (h : s.locked = false) : (!s.locked) = true := by rw [h]; rfl
/-- a loop by an invariant -/
theorem for_inv {g : T3G} {tb : T3S} {E : E3} (P : Nat → En → Prop) (items : List D) (step : ∀ (i : Nat) (d : D) (ρ : En) (N : En → Prop), items[i]? = some d → P i ρ → (∀ ρ', P (i + 1) ρ' → N ρ') → g d ρ fun ρ1 => tb { E with nx := N, ct := N, bk := E.nx } ρ1)
    (done : ∀ ρ, P items.length ρ → E.nx ρ) {ρ : En} (h0 : P 0 ρ) : forL g tb E items ρ := by
  have go : ∀ (k i : Nat), i + k = items.length → ∀ ρ, P i ρ → forL g tb E (items.drop i) ρ := by
    intro k
    induction k with
    | zero =>
      intro i hi ρ h
      have e : i = items.length := by omega
      subst e
      rw [List.drop_length]
      exact done ρ h
    | succ k ih =>
      intro i hi ρ h
      have hl : i < items.length := by omega
      rw [List.drop_eq_getElem_cons hl]
      exact step i items[i] ρ _ (List.getElem?_eq_getElem hl) h (fun ρ' h' => ih (i + 1) (by omega) ρ' h')
  exact go items.length 0 (by omega) ρ h0
/-- a comprehension by an invariant -/
theorem lc_inv {g : T3G} {tt : T3T} {te : T3E} {vs : List Nat} {Q : List D → En → Prop} (P : Nat → List D → En → Prop) (items : List D)
    (step : ∀ (i : Nat) (d : D) (acc : List D) (ρ : En) (N : List D → En → Prop), items[i]? = some d → P i acc ρ → (∀ acc' ρ', P (i + 1) acc' ρ' → N acc' ρ') → noW ρ vs = true ∧ g d (wipeE ρ vs) fun ρ2 => tt ρ2 fun b ρ3 =>
      if b = true then te ρ3 fun r ρ4 => match r with
        | .val d => acc.length < sizeLine ∧ N (acc ++ [d]) (restE ρ vs ρ4)
        | _ => False
      else N acc (restE ρ vs ρ3))
    (done : ∀ acc ρ, P items.length acc ρ → Q acc ρ) {acc : List D} {ρ : En} (h0 : P 0 acc ρ) : lcL g tt te vs Q items acc ρ := by
  have go : ∀ (k i : Nat), i + k = items.length → ∀ acc ρ, P i acc ρ → lcL g tt te vs Q (items.drop i) acc ρ := by
    intro k
    induction k with
    | zero =>
      intro i hi acc ρ h
      have e : i = items.length := by omega
      subst e
      rw [List.drop_length]
      exact done acc ρ h
    | succ k ih =>
      intro i hi acc ρ h
      have hl : i < items.length := by omega
      rw [List.drop_eq_getElem_cons hl]
      unfold lcL
      exact step i items[i] acc ρ (fun acc ρ => lcL g tt te vs Q (items.drop (i + 1)) acc ρ) (List.getElem?_eq_getElem hl) h (fun acc' ρ' h' => ih (i + 1) (by omega) acc' ρ' h')
  exact go items.length 0 (by omega) acc ρ h0
/-- a comprehension that changes nothing else -/
theorem lc_pure {g : T3G} {tt : T3T} {te : T3E} {vs : List Nat} {Q : List D → En → Prop} (f : D → Option D) (items : List D) {ρ : En} (no : noW ρ vs = true) (hl : items.length < sizeLine)
    (step : ∀ (d : D), d ∈ items → ∀ (acc : List D) (N : List D → En → Prop), acc.length < sizeLine → N (acc ++ (f d).toList) ρ → g d (wipeE ρ vs) fun ρ2 => tt ρ2 fun b ρ3 =>
      if b = true then te ρ3 fun r ρ4 => match r with
        | .val d => acc.length < sizeLine ∧ N (acc ++ [d]) (restE ρ vs ρ4)
        | _ => False
      else N acc (restE ρ vs ρ3)) (done : Q (items.filterMap f) ρ) : lcL g tt te vs Q items [] ρ := by
  refine lc_inv (fun i acc ρ' => ρ' = ρ ∧ acc = (items.take i).filterMap f) items ?_ ?_ ⟨rfl, by simp⟩
  · rintro i d acc _ N hd ⟨rfl, rfl⟩ hN
    refine ⟨no, step d (List.mem_of_getElem? hd) _ N ?_ (hN _ _ ⟨rfl, ?_⟩)⟩
    · have h1 := List.length_filterMap_le f (items.take i)
      have h2 := List.length_take_le' i items
      omega
    · rw [List.take_add_one, hd, List.filterMap_append]
      cases hf : f d <;> simp [hf]
  · rintro acc _ ⟨rfl, rfl⟩
    rw [List.take_length]; exact done
theorem erase_perm {α : Type} : ∀ {l : List α} {i : Nat} (h : i < l.length), (l[i] :: l.eraseIdx i).Perm l
  | [], i, h => by simp at h
  | x :: l, 0, h => by simp
  | x :: l, i + 1, h => by
    simp only [List.getElem_cons_succ, List.eraseIdx_cons_succ]
    exact (List.Perm.swap _ _ _).trans ((erase_perm (by simpa using h)).cons x)
theorem eqi {i j : Int} : (D.eqv (.int i) (.int j) = true) = (i = j) := by simp [D.eqv]
end
namespace K18
open PySem PySem.Spec L2
open PyProof.Rows (b2i)
structure Ad where
  Page : Addr
  Laid : Addr
theorem sz (n : Nat) (h : Nat.ble n 100 = true) : n ≤ sizeLine := Nat.le_trans (Nat.le_of_ble_eq_true h) (by decide)
def iD (r : List Int) : List D := r.map D.int
theorem iD_mem {r : List Int} {d : D} (h : d ∈ iD r) : ∃ x ∈ r, d = .int x := by
  obtain ⟨x, h1, h2⟩ := List.mem_map.mp h
  exact ⟨x, h1, h2.symm⟩
theorem oEq_in {neg : Bool} {x y : Rs} {ρ : En} {Q : Rs → En → Prop} {dx dy : D} (hx : x.dat ρ = some dx) (hy : y.dat ρ = some dy) (s1 : dx.shp = true) (s2 : dy.shp = true) (h : Q (.val (.bl (if neg then !D.eqv dx dy else D.eqv dx dy))) ρ) : oEq neg x y ρ Q := by
  unfold oEq wd; rw [hx, hy]; exact ⟨s1, s2, h⟩
theorem getD_put (k k' : Key) (d : D) : ∀ kvs : List (Key × D), getD' (putD kvs k d) k' = if k' = k then some d else getD' kvs k' := by
  intro kvs
  have gmap : ∀ kvs : List (Key × D), getD' (kvs.map fun kv => if kv.1 = k then (kv.1, d) else kv) k' = (getD' kvs k').map fun x => if k' = k then d else x := by
    intro kvs
    induction kvs with
    | nil => rfl
    | cons p r ih =>
      rw [List.map_cons]
      by_cases h : p.1 = k
      · rw [if_pos h]
        by_cases e : p.1 = k'
        · have e2 : k' = k := e.symm.trans h
          simp [getD', List.find?_cons, e, e2, h]
        · have a : getD' ((p.1, d) :: r.map fun kv => if kv.1 = k then (kv.1, d) else kv) k' = getD' (r.map fun kv => if kv.1 = k then (kv.1, d) else kv) k' := by simp [getD', List.find?_cons, e]
          have b : getD' (p :: r) k' = getD' r k' := by simp [getD', List.find?_cons, e]
          rw [a, b, ih]
      · rw [if_neg h]
        by_cases e : p.1 = k'
        · have e2 : ¬ k' = k := fun z => h (e.trans z)
          simp [getD', List.find?_cons, e, e2]
        · have a : getD' (p :: r.map fun kv => if kv.1 = k then (kv.1, d) else kv) k' = getD' (r.map fun kv => if kv.1 = k then (kv.1, d) else kv) k' := by simp [getD', List.find?_cons, e]
          have b : getD' (p :: r) k' = getD' r k' := by simp [getD', List.find?_cons, e]
          rw [a, b, ih]
  have gsnoc : ∀ kvs : List (Key × D), getD' (kvs ++ [(k, d)]) k' = (getD' kvs k').or (if k' = k then some d else none) := by
    intro kvs
    induction kvs with
    | nil =>
      by_cases e : k = k'
      · simp [getD', e]
      · have : ¬ k' = k := fun z => e z.symm
        simp [getD', e, this]
    | cons p r ih =>
      by_cases e : p.1 = k'
      · simp [getD', List.find?_cons, e]
      · have a : getD' ((p :: r) ++ [(k, d)]) k' = getD' (r ++ [(k, d)]) k' := by simp [getD', List.find?_cons, e]
        have b : getD' (p :: r) k' = getD' r k' := by simp [getD', List.find?_cons, e]
        rw [a, b, ih]
  have anyS : ∀ kvs : List (Key × D), (kvs.any fun kv => decide (kv.1 = k)) = (getD' kvs k).isSome := by
    intro kvs
    induction kvs with
    | nil => rfl
    | cons p r ih =>
      rw [List.any_cons, ih]
      by_cases e : p.1 = k
      · simp [getD', List.find?_cons, e]
      · have b : getD' (p :: r) k = getD' r k := by simp [getD', List.find?_cons, e]
        rw [b]; simp [e]
  unfold putD
  rw [anyS]
  by_cases q : (getD' kvs k).isSome = true
  · rw [if_pos q, gmap]
    by_cases e : k' = k
    · subst e
      obtain ⟨x, hx⟩ := Option.isSome_iff_exists.mp q
      simp [hx]
    · simp [e]
  · rw [if_neg q, gsnoc]
    by_cases e : k' = k
    · subst e
      have : getD' kvs k' = none := by simpa using q
      simp [this]
    · simp [e]
theorem lc_of {α : Type} {g : T3G} {tt : T3T} {te : T3E} {vs : List Nat} {Q : List D → En → Prop} (l : List α) (it : α → D) (out : α → Option D) {items : List D} {ρ : En} (ei : items = l.map it) (no : noW ρ vs = true) (hl : l.length < sizeLine)
    (step : ∀ (a : α), a ∈ l → ∀ (acc : List D) (N : List D → En → Prop), acc.length < sizeLine → N (acc ++ (out a).toList) ρ → g (it a) (wipeE ρ vs) fun ρ2 => tt ρ2 fun b ρ3 =>
      if b = true then te ρ3 fun r ρ4 => match r with
        | .val d => acc.length < sizeLine ∧ N (acc ++ [d]) (restE ρ vs ρ4)
        | _ => False
      else N acc (restE ρ vs ρ3)) (done : Q (l.filterMap out) ρ) : lcL g tt te vs Q items [] ρ := by
  subst ei
  refine lc_inv (fun i acc ρ' => ρ' = ρ ∧ acc = (l.take i).filterMap out) (l.map it) ?_ ?_ ⟨rfl, by simp⟩
  · rintro i d acc _ N hd ⟨rfl, rfl⟩ hN
    rw [List.getElem?_map] at hd
    obtain ⟨a, ha, rfl⟩ := Option.map_eq_some_iff.mp hd
    refine ⟨no, step a (List.mem_of_getElem? ha) _ N ?_ (hN _ _ ⟨rfl, ?_⟩)⟩
    · have h1 := List.length_filterMap_le out (l.take i)
      have h2 := List.length_take_le' i l
      omega
    · rw [List.take_add_one, ha, List.filterMap_append]
      cases hf : out a <;> simp [hf]
  · rintro acc _ ⟨rfl, rfl⟩
    rw [List.length_map, List.take_length]; exact done
theorem fm_all {α : Type} (g : α → D) : ∀ l : List α, l.filterMap (fun a => some (g a)) = l.map g
  | [] => rfl
  | x :: l => by rw [List.filterMap_cons, List.map_cons, fm_all g l]
/-! ### drawing -/
def isBag (d : D) : Prop := ∃ (ns : List Int) (a b c s : Int), d = .lst [.lst (ns.map D.int), .int a, .int b, .int c, .int s] ∧ 0 ≤ a
def sp__law_mixed (A : Ad) : S3 := fun ds QR _ => ∃ i j, ds = [.int i, .int j] ∧ ∀ r : Int, QR (.int r) ds
def b__law_mixed_t2 (A : Ad) : T3S := (sRet (eOp (oI (fun _ j => 0 < j) fun i j => .int (i % j)) (eCB cInt (aCons (eOp oAdd (eOp oAdd (eOp (oI CDiv fun i j => .int (i / j)) (eVar 3) (eC (.int 11))) (eOp oMul (eVar 3) (eC (.int 16807)))) (eVar 1)) aNil)) (eC (.int 2147483587))))
def b__law_mixed_t1 (A : Ad) : T3S := (sSeq (sAsg (eOp (oI (fun _ j => 0 < j) fun i j => .int (i % j)) (eCB cInt (aCons (eOp oAdd (eOp oAdd (eOp oMul (eVar 2) (eVar 2)) (eOp oMul (eVar 2) (eC (.int 69621)))) (eOp oMul (eOp oAdd (eVar 1) (eC (.int 3))) (eC (.int 40692)))) aNil)) (eC (.int 2147483629))) (gN 3))
 (b__law_mixed_t2 A))
def b__law_mixed (A : Ad) : T3S := (sSeq (sAsg (eOp (oI (fun _ j => 0 < j) fun i j => .int (i % j)) (eCB cInt (aCons (eOp oAdd (eOp oMul (eOp oAdd (eVar 0) (eC (.int 1))) (eC (.int 48271))) (eOp oMul (eOp oAdd (eVar 1) (eC (.int 1))) (eC (.int 1103515245)))) aNil)) (eC (.int 2147483647))) (gN 2))
 (b__law_mixed_t1 A))
theorem t__law_mixed (A : Ad) : ∀ ds QR QO, sp__law_mixed A ds QR QO → ds.length = 2 → b__law_mixed A (endE [.shr, .shr] ds QR QO) (startE 2 [.shr, .shr] ds) := by
  rintro ds QR QO ⟨i, j, rfl, h⟩ _
  refine ⟨cm (by decide), cm (by decide), pm _ rfl, rfl, ?_⟩
  have h1 := Int.emod_nonneg ((i + 1) * 48271 + (j + 1) * 1103515245) (show (2147483647 : Int) ≠ 0 by decide)
  have h2 := Int.emod_lt_of_pos ((i + 1) * 48271 + (j + 1) * 1103515245) (show (0 : Int) < 2147483647 by decide)
  refine ⟨cm ⟨by omega, by omega⟩, cm (by decide), cm (by decide), pm _ rfl, rfl, ?_⟩
  exact ⟨⟨by decide, by decide⟩, cm (by decide), pm _ rfl, h _⟩
def sp__law_bag (A : Ad) : S3 := fun ds _ QO => ∃ ns : List Int, ds = [.scr ns] ∧ ns.length ≤ 63 ∧ ∀ b, isBag b → QO b ds
def b__law_bag_l1 (A : Ad) : T3S := (sAsg (eOp (oI (fun _ j => 0 < j) fun i j => .int (i % j)) (eCB cInt (aCons (eOp oAdd (eOp oAdd (eOp oMul (eVar 2) (eC (.int 31))) (eOp (oI (fun _ j => 0 < j) fun i j => .int (i % j)) (eCB cInt (aCons (eCB cAbs (aCons (eVar 4) aNil)) aNil)) (eC (.int 1000000007)))) (eOp oMul (eOp oAdd (eVar 3) (eC (.int 1))) (eOp oLt (eVar 4) (eC (.int 0))))) aNil)) (eC (.int 1000000007))) (gN 2))
def b__law_bag_t3 (A : Ad) : T3S := (sRetO (oLst (aCons (eVar 1) (aCons (eC (.int 0)) (aCons (eC (.int 0)) (aCons (eC (.int 0)) (aCons (eVar 2) aNil)))))))
def b__law_bag_t2 (A : Ad) : T3S := (sSeq (sFor (iEP (aCons (eSl (eVar 1) pNo (pSo (eC (.int 63)))) aNil)) (gT 2 (fun xs ρ Q => match xs with | x :: r => (gN 3) x ρ fun ρ1 => (fun xs ρ Q => match xs with | x :: r => (gN 4) x ρ fun ρ1 => (fun xs ρ Q => xs = [] ∧ Q ρ) r ρ1 Q | [] => False) r ρ1 Q | [] => False))
 (b__law_bag_l1 A))
 (b__law_bag_t3 A))
def b__law_bag_t1 (A : Ad) : T3S := (sSeq (sAsg (eCB cLen (aCons (eVar 1) aNil)) (gN 2))
 (b__law_bag_t2 A))
def b__law_bag (A : Ad) : T3S := (sSeq (sAsg (eShr (oLc (iS (eVar 0)) (gN 4) fYes (eCB cInt (aCons (eVar 4) aNil)) [4])) (gN 1))
 (b__law_bag_t1 A))
theorem t__law_bag (A : Ad) : ∀ ds QR QO, sp__law_bag A ds QR QO → ds.length = 1 → b__law_bag A (endE [.shr] ds QR QO) (startE 4 [.shr] ds) := by
  rintro ds QR QO ⟨ns, rfl, hl, h⟩ _
  refine lc_of (ρ := [.shr (.scr ns), .emp, .emp, .emp, .emp]) ns D.int (fun x => some (.int x)) rfl rfl (by rw [sizeLine_eq]; omega) (fun x hx acc N hl hN => ⟨rfl, hl, hN⟩) ⟨trivial, rfl, ?_⟩
  rw [fm_all]
  show b__law_bag_t1 A _ [.shr (.scr ns), .shr (.lst (iD ns)), .emp, .emp, .emp]
  refine ⟨rfl, ?_⟩
  show b__law_bag_t2 A _ [.shr (.scr ns), .shr (.lst (iD ns)), .shr (.int ((iD ns).length : Nat)), .emp, .emp]
  refine for_inv (fun i ρ => ∃ (s : Int) (s3 s4 : Sl), s3.locked = false ∧ s4.locked = false ∧ ρ = [.shr (.scr ns), .shr (.lst (iD ns)), .shr (.int s), s3, s4]) _ ?_ ?_ ⟨_, .emp, .emp, rfl, rfl, rfl⟩
  · rintro i d ρ N hd ⟨s, s3, s4, h3, h4, rfl⟩ hN
    obtain ⟨x, hx, rfl⟩ := pairsD_get hd
    obtain ⟨c, hc, rfl⟩ : ∃ c : Int, c ∈ ns ∧ x = .int c := by
      have := List.mem_of_getElem? hx
      unfold cutL at this
      obtain ⟨c, h1, h2⟩ := iD_mem (List.mem_of_mem_drop (List.mem_of_mem_take this))
      exact ⟨c, h1, h2⟩
    refine ⟨rfl, unF h3, unF h4, rfl, ?_⟩
    show b__law_bag_l1 A { nx := N, rt := _, ro := _, bk := _, ct := N } [.shr (.scr ns), .shr (.lst (iD ns)), .shr (.int s), .shr (.int (i : Nat)), .shr (.int c)]
    exact ⟨cm (by decide), pm _ rfl, pm _ rfl, rfl, hN _ ⟨_, .shr (.int (i : Nat)), .shr (.int c), rfl, rfl, rfl⟩⟩
  · rintro ρ ⟨s, s3, s4, h3, h4, rfl⟩
    exact ⟨trivial, sz _ rfl, h _ ⟨ns, 0, 0, 0, s, rfl, by decide⟩⟩
def sp__law_pick (A : Ad) : S3 := fun ds QR _ => ∃ (bag : D) (many : Int), ds = [bag, .int many] ∧ isBag bag ∧ (0 < many ∧ many < 1073741824) ∧ ∀ r bag', 0 ≤ r → r < many → isBag bag' → QR (.int r) [bag', .int many]
def b__law_pick_c1t2 (A : Ad) : T3S := (sRet (eVar 3))
def b__law_pick_c1t1 (A : Ad) : T3S := (sSeq (sPut (eOp (oI CDiv fun i j => .int (i / j)) (eOp oIdx (eVar 0) (eC (.int 2))) (eVar 1)) (eVar 0) (eC (.int 2)))
 (b__law_pick_c1t2 A))
def b__law_pick_c2c3t1 (A : Ad) : T3S := (sRet (eOp (oI (fun _ j => 0 < j) fun i j => .int (i % j)) (eCB cInt (aCons (eVar 5) aNil)) (eVar 1)))
def b__law_pick_c2t4 (A : Ad) : T3S := (sRet (eOp (oI (fun _ j => 0 < j) fun i j => .int (i % j)) (eCB cInt (aCons (eCall [.shr, .shr] (sp__law_mixed A) (aCons (eOp oAdd (eOp oAdd (eVar 5) (eVar 5)) (eOp oLt (eVar 4) (eC (.int 0)))) (aCons (eVar 2) aNil))) aNil)) (eVar 1)))
def b__law_pick_c2t3 (A : Ad) : T3S := (sSeq (sIf (fTst (eOp oGe (eVar 5) (eOp (oI CPow fun i j => .int (i ^ j.toNat)) (eC (.int 10)) (eC (.int 18)))))
 (sSeq (sPut (eOp (oI CDiv fun i j => .int (i / j)) (eVar 5) (eVar 1)) (eVar 0) (eC (.int 2)))
 (b__law_pick_c2c3t1 A))
 sNext)
 (b__law_pick_c2t4 A))
def b__law_pick_c2t2 (A : Ad) : T3S := (sSeq (sAsg (eCB cAbs (aCons (eVar 4) aNil)) (gN 5))
 (b__law_pick_c2t3 A))
def b__law_pick_c2t1 (A : Ad) : T3S := (sSeq (sPut (eOp oAdd (eOp oIdx (eVar 0) (eC (.int 1))) (eC (.int 1))) (eVar 0) (eC (.int 1)))
 (b__law_pick_c2t2 A))
def b__law_pick_t4 (A : Ad) : T3S := (sRet (eOp (oI (fun _ j => 0 < j) fun i j => .int (i % j)) (eCB cInt (aCons (eCall [.shr, .shr] (sp__law_mixed A) (aCons (eOp oIdx (eVar 0) (eC (.int 4))) (aCons (eVar 2) aNil))) aNil)) (eVar 1)))
def b__law_pick_t3 (A : Ad) : T3S := (sSeq (sIf (fTst (eOp oLt (eOp oIdx (eVar 0) (eC (.int 1))) (eCB cLen (aCons (eOp oIdx (eVar 0) (eC (.int 0))) aNil))))
 (sSeq (sAsg (eOp oIdx (eOp oIdx (eVar 0) (eC (.int 0))) (eOp oIdx (eVar 0) (eC (.int 1)))) (gN 4))
 (b__law_pick_c2t1 A))
 sNext)
 (b__law_pick_t4 A))
def b__law_pick_t2 (A : Ad) : T3S := (sSeq (sIf (fTst (eOp oGt (eOp oIdx (eVar 0) (eC (.int 2))) (eC (.int 0))))
 (sSeq (sAsg (eOp (oI (fun _ j => 0 < j) fun i j => .int (i % j)) (eCB cInt (aCons (eOp oIdx (eVar 0) (eC (.int 2))) aNil)) (eVar 1)) (gN 3))
 (b__law_pick_c1t1 A))
 sNext)
 (b__law_pick_t3 A))
def b__law_pick_t1 (A : Ad) : T3S := (sSeq (sPut (eOp oAdd (eVar 2) (eC (.int 1))) (eVar 0) (eC (.int 3)))
 (b__law_pick_t2 A))
def b__law_pick (A : Ad) : T3S := (sSeq (sAsg (eOp oIdx (eVar 0) (eC (.int 3))) (gN 2))
 (b__law_pick_t1 A))
theorem t__law_pick (A : Ad) : ∀ ds QR QO, sp__law_pick A ds QR QO → ds.length = 2 → b__law_pick A (endE [.par, .shr] ds QR QO) (startE 4 [.par, .shr] ds) := by
  rintro ds QR QO ⟨bag, many, rfl, ⟨ns, a0, b0, c0, s, rfl, ha⟩, ⟨h1, h2⟩, h⟩ _
  have fin : ∀ x a b c, 0 ≤ a → QR (.int (x % many)) [.lst [.lst (ns.map D.int), .int a, .int b, .int c, .int s], .int many] := fun x a b c ha =>
    h _ _ (Int.emod_nonneg _ (by omega)) (Int.emod_lt_of_pos _ h1) ⟨ns, a, b, c, s, rfl, ha⟩
  have tail : ∀ a b t s3 s4 s5, 0 ≤ a → b__law_pick_t4 A (endE [.par, .shr] [.lst [.lst (ns.map D.int), .int a0, .int b0, .int c0, .int s], .int many] QR QO) [.par (.lst [.lst (ns.map D.int), .int a, .int b, .int (t + 1), .int s]), .shr (.int many), .shr (.int t), s3, s4, s5] := by
    intro a b t s3 s4 s5 ha
    exact ⟨rfl, _, _, rfl, fun r => ⟨h1, fin _ _ _ _ ha⟩⟩
  refine ⟨rfl, ?_⟩
  show b__law_pick_t2 A _ [.par (.lst [.lst (ns.map D.int), .int a0, .int b0, .int (c0 + 1), .int s]), .shr (.int many), .shr (.int c0), .emp, .emp, .emp]
  refine ifs (fun z => ?_) fun z => ?_
  · exact ⟨h1, rfl, ⟨h1, h2⟩, fin _ _ _ _ ha⟩
  show b__law_pick_t3 A _ [.par (.lst [.lst (ns.map D.int), .int a0, .int b0, .int (c0 + 1), .int s]), .shr (.int many), .shr (.int c0), .emp, .emp, .emp]
  refine ifs (fun z2 => ?_) fun z2 => tail _ _ _ _ _ _ ha
  have z2 : a0 < ((ns.map D.int).length : Int) := of_decide_eq_true z2
  obtain ⟨cell, hc⟩ : ∃ cell, ns[a0.toNat]? = some cell := ⟨_, List.getElem?_eq_getElem (by rw [List.length_map] at z2; omega)⟩
  have hat : L2.atI (ns.map D.int) a0 = some (.int cell) := atI_int ha (by rw [List.getElem?_map, hc]; rfl)
  refine wo_in hat ⟨rfl, ⟨rfl, ⟨by decide, by decide, by decide⟩, ifs (fun z3 => ?_) fun z3 => ?_⟩⟩
  · exact ⟨⟨h1, h2⟩, h1, fin _ _ _ _ (by omega)⟩
  · exact ⟨rfl, _, _, rfl, fun r => ⟨h1, fin _ _ _ _ (by omega)⟩⟩
def sp__law_choice (A : Ad) : S3 := fun ds QR _ => ∃ (bag : D) (xs : List D), ds = [bag, .lst xs] ∧ isBag bag ∧ (xs ≠ [] ∧ xs.length < 1073741824) ∧ ∀ x bag', x ∈ xs → isBag bag' → QR x [bag', .lst xs]
def b__law_choice (A : Ad) : T3S := (sRet (eOp oIdx (eVar 1) (eCall [.par, .shr] (sp__law_pick A) (aCons (eVar 0) (aCons (eCB cLen (aCons (eVar 1) aNil)) aNil)))))
theorem t__law_choice (A : Ad) : ∀ ds QR QO, sp__law_choice A ds QR QO → ds.length = 2 → b__law_choice A (endE [.par, .shr] ds QR QO) (startE 0 [.par, .shr] ds) := by
  rintro ds QR QO ⟨bag, xs, rfl, hb, ⟨h1, h2⟩, h⟩ _
  have hl : 0 < xs.length := List.length_pos_iff.mpr h1
  refine ⟨rfl, _, _, rfl, hb, ⟨by omega, by omega⟩, fun r bag' r0 r1 hb' => ?_⟩
  have hx : xs[r.toNat]? = some xs[r.toNat] := List.getElem?_eq_getElem (by omega)
  exact wo_in (atI_int r0 hx) (h _ _ (List.getElem_mem _) hb')

/-! ### texts -/
def gd (n : Nat) (s : Str) : Prop := s.length ≤ n ∧ PyData.strOk s = true
theorem gd.mono {m n : Nat} {s : Str} (h : gd m s) (l : m ≤ n) : gd n s := ⟨Nat.le_trans h.1 l, h.2⟩
theorem gd.app {m n : Nat} {s t : Str} (h : gd m s) (h' : gd n t) : gd (m + n) (s ++ t) := by
  obtain ⟨a, b⟩ := h
  obtain ⟨c, d⟩ := h'
  refine ⟨?_, ?_⟩
  · rw [TL.len_tl, TL.tl_append, List.length_append]; rw [TL.len_tl] at a c; omega
  · unfold PyData.strOk at *
    rw [← Array.all_toList] at *
    rw [show (s ++ t).cps.toList = s.cps.toList ++ t.cps.toList from TL.tl_append s t, List.all_append, b, d]; rfl

end K18
end L3

set_option Elab.async false
set_option linter.all false
set_option maxRecDepth 100000
set_option autoImplicit false
set_option maxHeartbeats 0
namespace L3
namespace K18
open PySem PySem.Spec L2
open PyProof.Rows (b2i)
theorem atI_g {α : Type} {ds : List α} {i : Int} {d : α} (h0 : 0 ≤ i) (h : ds[i.toNat]? = some d) : L2.atI ds i = some d := by
  have hn : i.toNat < ds.length := (List.getElem?_eq_some_iff.mp h).1
  unfold L2.atI L2.ixN
  rw [if_pos h0, if_pos (by omega)]
  simpa using h
theorem gd_sl {n : Nat} {s : Str} (h : gd n s) (hn : n ≤ 1000000) : s.length ≤ sizeLine := by rw [sizeLine_eq]; have := h.1; omega
theorem gd.shp {n : Nat} {s : Str} (h : gd n s) : (D.str s).shp = true := by
  have : (D.str s).ok = true := h.2
  unfold D.shp
  rw [this]; rfl
def sgA : Str := " !\"#$&'()*+,-./0123456789:;<=>?@ABCDEFGHIJKLMNOPQRSTUVWXYZ[\\]^_`"
def sgB : Str := "abcdefghijklmnopqrstuvwxyz{|}~"
def sg : Str := sgA ++ sgB
theorem sg_len : sg.length = 94 := by decide +kernel
theorem sg_ok : ∀ c ∈ sg.cps.toList, c < 1114112 := by decide +kernel
theorem gd_one {c : Nat} (h : c ∈ sg.cps.toList) : gd 1 (⟨#[c]⟩ : Str) := by
  refine ⟨Nat.le_refl _, ?_⟩
  have := sg_ok c h
  unfold PyData.strOk
  simp [this]
theorem gd_nil : gd 0 ("" : Str) := ⟨by decide +kernel, by decide +kernel⟩
def sp__law_text (A : Ad) : S3 := fun ds QR _ => ∃ (bag : D) (lo hi : Nat), ds = [bag, .int lo, .int hi] ∧ isBag bag ∧ (lo ≤ hi ∧ hi ≤ 1000) ∧ ∀ s bag', gd hi s → isBag bag' → QR (.str s) [bag', .int lo, .int hi]
def b__law_text_l1 (A : Ad) : T3S := (sAsg (eOp oAdd (eVar 4) (eOp oIdx (eVar 3) (eCall [.par, .shr] (sp__law_pick A) (aCons (eVar 0) (aCons (eCB cLen (aCons (eVar 3) aNil)) aNil))))) (gN 4))
def b__law_text_t4 (A : Ad) : T3S := (sRet (eVar 4))
def b__law_text_t3 (A : Ad) : T3S := (sSeq (sFor (iR1 (aCons (eOp oAdd (eVar 1) (eCall [.par, .shr] (sp__law_pick A) (aCons (eVar 0) (aCons (eOp oAdd (eOp (oI0 fun i j => .int (i - j)) (eVar 2) (eVar 1)) (eC (.int 1))) aNil)))) aNil)) (gN 5)
 (b__law_text_l1 A))
 (b__law_text_t4 A))
def b__law_text_t2 (A : Ad) : T3S := (sSeq (sAsg (eC (.str "")) (gN 4))
 (b__law_text_t3 A))
def b__law_text_t1 (A : Ad) : T3S := (sSeq (sAsg (eOp oAdd (eVar 3) (eC (.str "abcdefghijklmnopqrstuvwxyz{|}~"))) (gN 3))
 (b__law_text_t2 A))
def b__law_text (A : Ad) : T3S := (sSeq (sAsg (eC (.str " !\"#$&'()*+,-./0123456789:;<=>?@ABCDEFGHIJKLMNOPQRSTUVWXYZ[\\]^_`")) (gN 3))
 (b__law_text_t1 A))
theorem t__law_text (A : Ad) : ∀ ds QR QO, sp__law_text A ds QR QO → ds.length = 3 → b__law_text A (endE [.par, .shr, .shr] ds QR QO) (startE 3 [.par, .shr, .shr] ds) := by
  rintro ds QR QO ⟨bag, lo, hi, rfl, hb, ⟨h1, h2⟩, h⟩ _
  refine ⟨rfl, ?_⟩
  show b__law_text_t1 A _ [.par bag, .shr (.int lo), .shr (.int hi), .shr (.str sgA), .emp, .emp]
  refine ⟨show sgA.length + sgB.length ≤ sizeLine by decide +kernel, rfl, ?_⟩
  show b__law_text_t2 A _ [.par bag, .shr (.int lo), .shr (.int hi), .shr (.str sg), .emp, .emp]
  refine ⟨rfl, ?_⟩
  show b__law_text_t3 A _ [.par bag, .shr (.int lo), .shr (.int hi), .shr (.str sg), .shr (.str ""), .emp]
  refine ⟨rfl, _, _, rfl, hb, ⟨by omega, by omega⟩, fun r bag' r0 r1 hb' => ⟨⟨by omega, by omega⟩, ?_⟩⟩
  show forL (gN 5) (b__law_text_l1 A) _ (rngD 0 1 ((lo : Int) + r).toNat) [.par bag', .shr (.int lo), .shr (.int hi), .shr (.str sg), .shr (.str ""), .emp]
  refine for_inv (fun i ρ => ∃ bag s s5, isBag bag ∧ gd i s ∧ i ≤ hi ∧ s5.locked = false ∧ ρ = [.par bag, .shr (.int lo), .shr (.int hi), .shr (.str sg), .shr (.str s), s5]) _ ?_ ?_ ⟨bag', "", .emp, hb', gd_nil, by omega, rfl, rfl⟩
  · rintro i d ρ N hd ⟨bag, s, s5, hb, hs, hi', h5, rfl⟩ hN
    obtain ⟨hr, rfl⟩ := rngD_get hd
    refine ⟨unF h5, ?_⟩
    show b__law_text_l1 A _ [.par bag, .shr (.int lo), .shr (.int hi), .shr (.str sg), .shr (.str s), .shr _]
    refine ⟨by rw [sg_len]; decide, rfl, _, _, rfl, hb, ⟨by rw [sg_len]; decide, by rw [sg_len]; decide⟩, fun r bag' r0 r1 hb' => ⟨by rw [sg_len]; decide, ?_⟩⟩
    have r1 : r < 94 := by rw [sg_len] at r1; exact r1
    have hl : r.toNat < sg.cps.toList.length := by
      have : sg.cps.toList.length = 94 := by rw [← TL.len_tl, sg_len]
      omega
    have hx : sg.cps.toList[r.toNat]? = some sg.cps.toList[r.toNat] := List.getElem?_eq_getElem hl
    refine wo_in (atI_g r0 hx) ⟨?_, rfl, hN _ ⟨bag', _, _, hb', hs.app (gd_one (List.getElem_mem hl)), by omega, ?_, rfl⟩⟩
    · have := hs.1
      rw [sizeLine_eq]
      show s.length + 1 ≤ _
      omega
    · rfl
  · rintro ρ ⟨bag, s, s5, hb, hs, hi', h5, rfl⟩
    rw [rngD_len] at hs
    exact ⟨trivial, h _ _ (hs.mono (by omega)) hb⟩
def sp__law_label (A : Ad) : S3 := fun ds QR _ => ∃ (bag : D), ds = [bag] ∧ isBag bag ∧ ∀ s bag', gd 20 s → isBag bag' → QR (.str s) [bag']
def b__law_label_t6 (A : Ad) : T3S := (sRet (eCall [.par, .shr, .shr] (sp__law_text A) (aCons (eVar 0) (aCons (eC (.int 1)) (aCons (eC (.int 20)) aNil)))))
def b__law_label_t5 (A : Ad) : T3S := (sSeq (sIf (fTst (eOp (oEq false) (eVar 1) (eC (.int 6))))
 (sRet (eCall [.par, .shr] (sp__law_choice A) (aCons (eVar 0) (aCons (eLst (aCons (eC (.str "rows")) (aCons (eC (.str "row ")) (aCons (eC (.str " row")) (aCons (eC (.str "Row")) (aCons (eC (.str "ROW")) (aCons (eC (.str "ro")) (aCons (eC (.str "cols")) (aCons (eC (.str "col ")) (aCons (eC (.str " col")) (aCons (eC (.str "Col")) (aCons (eC (.str "co")) (aCons (eC (.str "r")) (aCons (eC (.str "rowcol")) (aCons (eC (.str "button")) (aCons (eC (.str "buttons")) (aCons (eC (.str "Button x")) (aCons (eC (.str " button x")) (aCons (eC (.str "button ")) (aCons (eC (.str "text")) aNil)))))))))))))))))))) aNil))))
 sNext)
 (b__law_label_t6 A))
def b__law_label_t4 (A : Ad) : T3S := (sSeq (sIf (fTst (eOp (oEq false) (eVar 1) (eC (.int 5))))
 (sRet (eOp oAdd (eC (.str "button ")) (eCall [.par, .shr, .shr] (sp__law_text A) (aCons (eVar 0) (aCons (eC (.int 0)) (aCons (eC (.int 13)) aNil))))))
 sNext)
 (b__law_label_t5 A))
def b__law_label_t3 (A : Ad) : T3S := (sSeq (sIf (fTst (eOp oLt (eVar 1) (eC (.int 5))))
 (sRet (eOp oAdd (eC (.str "text ")) (eCB cStr (aCons (eCall [.par, .shr] (sp__law_pick A) (aCons (eVar 0) (aCons (eC (.int 10)) aNil))) aNil))))
 sNext)
 (b__law_label_t4 A))
def b__law_label_t2 (A : Ad) : T3S := (sSeq (sIf (fTst (eOp (oEq false) (eVar 1) (eC (.int 2))))
 (sRet (eC (.str "col")))
 sNext)
 (b__law_label_t3 A))
def b__law_label_t1 (A : Ad) : T3S := (sSeq (sIf (fTst (eOp oLt (eVar 1) (eC (.int 2))))
 (sRet (eC (.str "row")))
 sNext)
 (b__law_label_t2 A))
def b__law_label (A : Ad) : T3S := (sSeq (sAsg (eCall [.par, .shr] (sp__law_pick A) (aCons (eVar 0) (aCons (eC (.int 8)) aNil))) (gN 1))
 (b__law_label_t1 A))
theorem gdc {n : Nat} (s : Str) (h : (decide (s.length ≤ n) && PyData.strOk s) = true) : gd n s := by
  rw [Bool.and_eq_true] at h
  exact ⟨of_decide_eq_true h.1, h.2⟩
theorem gd_num {n : Nat} {i : Int} (h0 : 0 ≤ i) (h1 : i < 10 ^ n) (hn : 0 < n) : gd n (toString i : String) := by
  obtain ⟨k, rfl⟩ := Int.eq_ofNat_of_zero_le h0
  have e : (Str.ofString (toString ((k : Nat) : Int))).cps.toList = TL.numL k := TL.tl_num k
  have hd := TL.numL_digits k
  refine ⟨?_, ?_⟩
  · show (Str.ofString (toString ((k : Nat) : Int))).length ≤ n
    rw [TL.len_tl, show TL.tl _ = _ from e]
    exact TL.numL_len hn (by have : ((k : Nat) : Int) < ((10 ^ n : Nat) : Int) := by simpa using h1
                             omega)
  · show PyData.strOk (Str.ofString (toString ((k : Nat) : Int))) = true
    unfold PyData.strOk
    rw [← Array.all_toList, e, List.all_eq_true]
    intro c hc
    have := hd c hc
    simp; omega
def words : List Str := ["rows", "row ", " row", "Row", "ROW", "ro", "cols", "col ", " col", "Col", "co", "r", "rowcol", "button", "buttons", "Button x", " button x", "button ", "text"]
theorem words_gd : ∀ s ∈ words, gd 20 s := by
  have : (words.all fun s => decide (s.length ≤ 20) && PyData.strOk s) = true := by decide +kernel
  intro s hs
  exact gdc s (List.all_eq_true.mp this s hs)
theorem t__law_label (A : Ad) : ∀ ds QR QO, sp__law_label A ds QR QO → ds.length = 1 → b__law_label A (endE [.par] ds QR QO) (startE 1 [.par] ds) := by
  rintro ds QR QO ⟨bag, rfl, hb, h⟩ _
  refine ⟨rfl, bag, 8, rfl, hb, ⟨by decide, by decide⟩, fun way bag hw0 hw1 hb => ⟨rfl, ?_⟩⟩
  show b__law_label_t1 A _ [.par bag, .shr (.int way)]
  refine ifs (fun z => h _ _ (gdc "row" (by decide +kernel)) hb) fun z => ?_
  show b__law_label_t2 A _ [.par bag, .shr (.int way)]
  refine ⟨rfl, rfl, ifs (fun z => h _ _ (gdc "col" (by decide +kernel)) hb) fun z => ?_⟩
  show b__law_label_t3 A _ [.par bag, .shr (.int way)]
  refine ifs (fun z => ?_) fun z => ?_
  · refine ⟨rfl, bag, 10, rfl, hb, ⟨by decide, by decide⟩, fun i bag h0 h1 hb => ?_⟩
    have g1 : gd 5 ("text " : Str) := gdc "text " (by decide +kernel)
    have g2 : gd 1 (toString i : String) := gd_num h0 h1 (by decide)
    have hl : i.natAbs.log2 < 1920 := Nat.lt_of_le_of_lt (Nat.log2_le_self _) (by omega)
    refine ⟨hl, ?_, h _ _ ((g1.app g2).mono (by decide)) hb⟩
    have a := g1.1
    have b := g2.1
    rw [sizeLine_eq]; omega
  show b__law_label_t4 A _ [.par bag, .shr (.int way)]
  refine ⟨rfl, rfl, ifs (fun z => ?_) fun z => ?_⟩
  · refine ⟨rfl, bag, 0, 13, rfl, hb, ⟨by decide, by decide⟩, fun s bag hs hb => ?_⟩
    have g1 : gd 7 ("button " : Str) := gdc "button " (by decide +kernel)
    refine ⟨?_, h _ _ (g1.app hs) hb⟩
    have a := g1.1
    have b := hs.1
    rw [sizeLine_eq]; omega
  show b__law_label_t5 A _ [.par bag, .shr (.int way)]
  refine ⟨rfl, rfl, ifs (fun z => ?_) fun z => ?_⟩
  · refine ⟨sz _ rfl, rfl, bag, words.map D.str, rfl, hb, ⟨by simp [words], by decide⟩, fun x bag hx hb => ?_⟩
    obtain ⟨s, hs, rfl⟩ := List.mem_map.mp hx
    exact h _ _ (words_gd s hs) hb
  show b__law_label_t6 A _ [.par bag, .shr (.int way)]
  exact ⟨rfl, bag, 1, 20, rfl, hb, ⟨by decide, by decide⟩, fun s bag hs hb => h _ _ hs hb⟩

end K18
end L3

set_option Elab.async false
set_option linter.all false
set_option maxRecDepth 100000
set_option autoImplicit false
set_option maxHeartbeats 0
namespace L3
namespace K18
open PySem PySem.Spec L2
open PyProof.Rows (b2i)
theorem prime997 : ∀ s, s < 997 → 0 < s → Nat.gcd 997 s = 1 := by
  have h : ∀ s : Fin 997, 0 < s.val → Nat.gcd 997 s.val = 1 := by decide +kernel
  exact fun s hs => h ⟨s, hs⟩
/-- the number in the k-th mark -/
def mnum (start step : Int) (k : Nat) : Int := (start + (0 + (k : Int) * 1) * step) % 997
theorem mnum_inj {start step : Int} (h0 : 1 ≤ step) (h1 : step ≤ 996) {a b : Nat} (ha : a < 997) (hb : b < 997) (e : mnum start step a = mnum start step b) : a = b := by
  have go : ∀ a b : Nat, a ≤ b → b < 997 → mnum start step a = mnum start step b → a = b := by
    intro a b hab hb e
    obtain ⟨s, rfl⟩ := Int.eq_ofNat_of_zero_le (show 0 ≤ step by omega)
    unfold mnum at e
    have d : (997 : Int) ∣ ((start + (0 + (b : Int) * 1) * (s : Int)) - (start + (0 + (a : Int) * 1) * (s : Int))) := by
      have := Int.emod_emod_of_dvd
      exact Int.dvd_of_emod_eq_zero (by rw [Int.sub_emod, e, Int.sub_self]; rfl)
    obtain ⟨c, rfl⟩ : ∃ c, b = a + c := ⟨b - a, by omega⟩
    have e2 : (start + (0 + ((a + c : Nat) : Int) * 1) * (s : Int)) - (start + (0 + (a : Int) * 1) * (s : Int)) = ((c * s : Nat) : Int) := by
      push_cast
      rw [Int.zero_add, Int.zero_add, Int.mul_one, Int.mul_one, Int.add_mul]
      omega
    rw [e2] at d
    have d2 : 997 ∣ c * s := by
      have : ((997 : Nat) : Int) ∣ ((c * s : Nat) : Int) := d
      exact Int.natCast_dvd_natCast.mp this
    have g := prime997 s (by omega) (by omega)
    have d3 : 997 ∣ c := Nat.Coprime.dvd_of_dvd_mul_right (show Nat.Coprime 997 s from g) d2
    obtain ⟨m, hm⟩ := d3
    have : m = 0 := by omega
    subst this
    omega
  rcases Nat.le_total a b with h | h
  · exact go a b h hb e
  · exact (go b a h ha e.symm).symm
def mark (l r : Str) (i : Int) : Str := l ++ (toString i : String) ++ r
theorem mark_inj {l r : Str} {i j : Int} (hi : 0 ≤ i) (hj : 0 ≤ j) (e : mark l r i = mark l r j) : i = j := by
  obtain ⟨m, rfl⟩ := Int.eq_ofNat_of_zero_le hi
  obtain ⟨n, rfl⟩ := Int.eq_ofNat_of_zero_le hj
  have e1 := congrArg TL.tl e
  unfold mark at e1
  rw [TL.tl_append, TL.tl_append, TL.tl_append, TL.tl_append] at e1
  have e2 := List.append_cancel_left (List.append_cancel_right e1)
  have e3 : TL.numL m = TL.numL n := by
    rw [← TL.tl_num, ← TL.tl_num]; exact e2
  rw [TL.numL_inj e3]
def sp__law_marks (A : Ad) : S3 := fun ds QR _ => ∃ (bag : D) (count : Nat), ds = [bag, .int count] ∧ isBag bag ∧ count ≤ 100 ∧ ∀ (ms : List Str) bag', ms.length = count → ms.Nodup → (∀ m ∈ ms, gd 59 m) → isBag bag' → QR (.lst (ms.map D.str)) [bag', .int count]
def b__law_marks_t5 (A : Ad) : T3S := (sRet (eShr (oLc (iR1 (aCons (eVar 1) aNil)) (gN 7) fYes (eOp oAdd (eOp oAdd (eVar 3) (eCB cStr (aCons (eOp (oI (fun _ j => 0 < j) fun i j => .int (i % j)) (eCB cInt (aCons (eOp oAdd (eVar 6) (eOp oMul (eVar 7) (eVar 5))) aNil)) (eC (.int 997))) aNil))) (eVar 4)) [7])))
def b__law_marks_t4 (A : Ad) : T3S := (sSeq (sAsg (eCall [.par, .shr] (sp__law_pick A) (aCons (eVar 0) (aCons (eC (.int 997)) aNil))) (gN 6))
 (b__law_marks_t5 A))
def b__law_marks_t3 (A : Ad) : T3S := (sSeq (sAsg (eOp oAdd (eC (.int 1)) (eCall [.par, .shr] (sp__law_pick A) (aCons (eVar 0) (aCons (eC (.int 996)) aNil)))) (gN 5))
 (b__law_marks_t4 A))
def b__law_marks_t2 (A : Ad) : T3S := (sSeq (sAsg (eCall [.par, .shr, .shr] (sp__law_text A) (aCons (eVar 0) (aCons (eC (.int 0)) (aCons (eVar 2) aNil)))) (gN 4))
 (b__law_marks_t3 A))
def b__law_marks_t1 (A : Ad) : T3S := (sSeq (sAsg (eCall [.par, .shr, .shr] (sp__law_text A) (aCons (eVar 0) (aCons (eC (.int 0)) (aCons (eVar 2) aNil)))) (gN 3))
 (b__law_marks_t2 A))
def b__law_marks (A : Ad) : T3S := (sSeq (sAsg (eOp oIdx (eLst (aCons (eC (.int 3)) (aCons (eC (.int 3)) (aCons (eC (.int 3)) (aCons (eC (.int 28)) aNil))))) (eCall [.par, .shr] (sp__law_pick A) (aCons (eVar 0) (aCons (eC (.int 4)) aNil)))) (gN 2))
 (b__law_marks_t1 A))
theorem t__law_marks (A : Ad) : ∀ ds QR QO, sp__law_marks A ds QR QO → ds.length = 2 → b__law_marks A (endE [.par, .shr] ds QR QO) (startE 6 [.par, .shr] ds) := by
  rintro ds QR QO ⟨bag, count, rfl, hb, hc, h⟩ _
  refine ⟨sz _ rfl, rfl, bag, 4, rfl, hb, ⟨by decide, by decide⟩, fun w bag w0 w1 hb => ?_⟩
  have hm : ∃ most : Nat, most ≤ 28 ∧ L2.atI [D.int 3, D.int 3, D.int 3, D.int 28] w = some (.int most) := by
    have : w = 0 ∨ w = 1 ∨ w = 2 ∨ w = 3 := by omega
    rcases this with rfl | rfl | rfl | rfl
    · exact ⟨3, by decide, rfl⟩
    · exact ⟨3, by decide, rfl⟩
    · exact ⟨3, by decide, rfl⟩
    · exact ⟨28, by decide, rfl⟩
  obtain ⟨most, hm, em⟩ := hm
  refine wo_in em ⟨rfl, ?_⟩
  show b__law_marks_t1 A _ [.par bag, .shr (.int count), .shr (.int most), .emp, .emp, .emp, .emp, .emp]
  refine ⟨rfl, bag, 0, most, rfl, hb, ⟨by omega, by omega⟩, fun l bag hl hb => ⟨rfl, ?_⟩⟩
  show b__law_marks_t2 A _ [.par bag, .shr (.int count), .shr (.int most), .shr (.str l), .emp, .emp, .emp, .emp]
  refine ⟨rfl, bag, 0, most, rfl, hb, ⟨by omega, by omega⟩, fun r bag hr hb => ⟨rfl, ?_⟩⟩
  show b__law_marks_t3 A _ [.par bag, .shr (.int count), .shr (.int most), .shr (.str l), .shr (.str r), .emp, .emp, .emp]
  refine ⟨rfl, bag, 996, rfl, hb, ⟨by decide, by decide⟩, fun s bag s0 s1 hb => ⟨rfl, ?_⟩⟩
  show b__law_marks_t4 A _ [.par bag, .shr (.int count), .shr (.int most), .shr (.str l), .shr (.str r), .shr (.int (1 + s)), .emp, .emp]
  refine ⟨rfl, bag, 997, rfl, hb, ⟨by decide, by decide⟩, fun st bag t0 t1 hb => ⟨rfl, ?_⟩⟩
  show b__law_marks_t5 A _ [.par bag, .shr (.int count), .shr (.int most), .shr (.str l), .shr (.str r), .shr (.int (1 + s)), .shr (.int st), .emp]
  refine ⟨⟨by omega, by omega⟩, ?_⟩
  have g1 : ∀ k, 0 ≤ mnum st (1 + s) k ∧ mnum st (1 + s) k < 997 := fun k => ⟨Int.emod_nonneg _ (by decide), Int.emod_lt_of_pos _ (by decide)⟩
  have gN : ∀ k, gd 3 (toString (mnum st (1 + s) k) : String) := fun k => gd_num (g1 k).1 (by have := (g1 k).2; omega) (by decide)
  have gM : ∀ k, gd 59 (mark l r (mnum st (1 + s) k)) := fun k => (((hl.app (gN k)).app hr).mono (by omega))
  have len : ((count : Int)).toNat = count := by omega
  refine lc_of (ρ := [.par bag, .shr (.int count), .shr (.int most), .shr (.str l), .shr (.str r), .shr (.int (1 + s)), .shr (.int st), .emp]) (List.range count) (fun i => .int (0 + (i : Nat) * 1)) (fun k => some (.str (mark l r (mnum st (1 + s) k)))) (by rw [len]; rfl) rfl (by rw [List.length_range, sizeLine_eq]; omega) (fun k hk acc N hl' hN => ?_) ⟨trivial, ?_⟩
  · refine ⟨rfl, cm ⟨by omega, by omega⟩, pm _ rfl, ?_, ?_, ?_, hl', hN⟩
    · have := (g1 k).2
      have := (g1 k).1
      exact Nat.lt_of_le_of_lt (Nat.log2_le_self _) (show (mnum st (1 + s) k).natAbs < 1920 by omega)
    · have a := hl.1
      have b := (gN k).1
      show l.length + (Str.ofString (toString (mnum st (1 + s) k))).length ≤ _
      rw [sizeLine_eq]; omega
    · have a := (hl.app (gN k)).1
      have b := hr.1
      show (l ++ (Str.ofString (toString (mnum st (1 + s) k)))).length + r.length ≤ _
      rw [sizeLine_eq]; omega
  · rw [show (fun k => some (D.str (mark l r (mnum st (1 + s) k)))) = fun k => some ((fun k => D.str (mark l r (mnum st (1 + s) k))) k) from rfl, fm_all]
    have e : (List.range count).map (fun k => D.str (mark l r (mnum st (1 + s) k))) = ((List.range count).map fun k => mark l r (mnum st (1 + s) k)).map D.str := by rw [List.map_map]; rfl
    rw [e]
    refine h _ _ (by rw [List.length_map, List.length_range]) ?_ ?_ hb
    · rw [List.Nodup, List.pairwise_map]
      refine List.Pairwise.imp_of_mem ?_ (List.nodup_range (n := count))
      intro a b ha hb' hne e
      have ha := List.mem_range.mp ha
      have hb' := List.mem_range.mp hb'
      exact hne (mnum_inj (by omega) (by omega) (by omega) (by omega) (mark_inj (g1 a).1 (g1 b).1 e))
    · intro m hm
      obtain ⟨k, _, rfl⟩ := List.mem_map.mp hm
      exact gM k

end K18
end L3

set_option Elab.async false
set_option linter.all false
set_option maxRecDepth 100000
set_option autoImplicit false
set_option maxHeartbeats 0
namespace L3
namespace K18
open PySem PySem.Spec L2
open PyProof.Rows (b2i)
/-! ### trees -/
inductive T where
  | nd (m l : Str) (ks : List T)
def T.m : T → Str | .nd m _ _ => m
def T.l : T → Str | .nd _ l _ => l
def T.ks : T → List T | .nd _ _ ks => ks
mutual
def T.d : T → D
  | .nd m l ks => .tup [.str m, .str l, .tup (T.ds ks)]
def T.ds : List T → List D
  | [] => []
  | t :: ts => t.d :: T.ds ts
end
mutual
def T.pre : T → List T
  | .nd m l ks => .nd m l ks :: T.pres ks
def T.pres : List T → List T
  | [] => []
  | t :: ts => t.pre ++ T.pres ts
end
mutual
def T.ht : T → Nat
  | .nd _ _ ks => T.hts ks + 1
def T.hts : List T → Nat
  | [] => 0
  | t :: ts => max t.ht (T.hts ts)
end
theorem ds_map : ∀ ts : List T, T.ds ts = ts.map T.d
  | [] => by simp [T.ds]
  | t :: ts => by simp [T.ds, ds_map ts]
theorem T.d_eq (t : T) : t.d = .tup [.str t.m, .str t.l, .tup (t.ks.map T.d)] := by
  cases t; simp [T.d, T.m, T.l, T.ks, ds_map]
theorem pres_app (ts us : List T) : T.pres (ts ++ us) = T.pres ts ++ T.pres us := by
  induction ts with
  | nil => simp [T.pres]
  | cons t ts ih => simp [T.pres, ih]
theorem hts_le {n : Nat} : ∀ {ts : List T}, (∀ t ∈ ts, t.ht ≤ n) → T.hts ts ≤ n
  | [], _ => by simp [T.hts]
  | t :: ts, h => by
    have h1 := h t (List.mem_cons_self ..)
    have h2 := hts_le (ts := ts) fun x hx => h x (List.mem_cons_of_mem _ hx)
    simp only [T.hts]; omega
/-! ### the flat list -/
abbrev Fl := Str × Str × Nat
def fD (x : Fl) : D := .tup [.str x.1, .str x.2.1, .int (x.2.2 : Nat)]
theorem cutL_1 {α : Type} (xs : List α) (h : xs ≠ []) : cutL xs (some 1) none = xs.tail := by
  have hl : 0 < xs.length := List.length_pos_iff.mpr h
  unfold cutL
  have e1 : HT.sIx xs.length 0 (some 1) = 1 := by
    have := HT.sIx_nat xs.length 0 1
    rw [show ((1 : Nat) : Int) = 1 from rfl] at this
    rw [this]; omega
  rw [e1, HT.sIx_none, List.drop_one, List.take_of_length_le]
  rw [List.length_tail]; omega
theorem atI_last {α : Type} {ds : List α} {d : α} (h : ds[ds.length - 1]? = some d) : L2.atI ds (-1) = some d := by
  have hn : ds.length - 1 < ds.length := (List.getElem?_eq_some_iff.mp h).1
  unfold L2.atI L2.ixN
  rw [if_neg (by decide), if_pos (by omega)]
  show ds[((-1 : Int) + (ds.length : Nat)).toNat]? = some d
  rw [show ((-1 : Int) + (ds.length : Nat)).toNat = ds.length - 1 by omega]
  exact h
def sp__law_flat (A : Ad) : S3 := fun ds QR _ => ∃ (bag : D) (ms : List Str), ds = [bag, .lst (ms.map D.str), .int 5] ∧ isBag bag ∧ (ms ≠ [] ∧ ms.length ≤ 100) ∧
  ∀ (x : Fl) (xs : List Fl) bag', (x :: xs).map (·.1) = ms → (∀ y ∈ x :: xs, gd 20 y.2.1) → x.2.2 = 0 → (∀ y ∈ xs, 1 ≤ y.2.2 ∧ y.2.2 ≤ 5) → isBag bag' → QR (.lst ((x :: xs).map fD)) [bag', .lst (ms.map D.str), .int 5]
def b__law_flat_l1t2 (A : Ad) : T3S := (sDrop (eBM "list" mAppend (eVar 3) (aCons (eTup (aCons (eVar 4) (aCons (eCall [.par] (sp__law_label A) (aCons (eVar 0) aNil)) (aCons (eOp oAdd (eC (.int 1)) (eCall [.par, .shr] (sp__law_pick A) (aCons (eVar 0) (aCons (eVar 5) aNil)))) aNil)))) aNil)))
def b__law_flat_l1t1 (A : Ad) : T3S := (sSeq (sIf (fTst (eOp oGt (eVar 5) (eVar 2)))
 (sAsg (eVar 2) (gN 5))
 sNext)
 (b__law_flat_l1t2 A))
def b__law_flat_l1 (A : Ad) : T3S := (sSeq (sAsg (eOp oAdd (eOp oIdx (eOp oIdx (eVar 3) (eNeg (eC (.int 1)))) (eC (.int 2))) (eC (.int 1))) (gN 5))
 (b__law_flat_l1t1 A))
def b__law_flat_t2 (A : Ad) : T3S := (sFrz 3 (sRet (eVar 3)))
def b__law_flat_t1 (A : Ad) : T3S := (sSeq (sFor (iS (eSl (eVar 1) (pSo (eC (.int 1))) pNo)) (gN 4)
 (b__law_flat_l1 A))
 (b__law_flat_t2 A))
def b__law_flat (A : Ad) : T3S := (sSeq (sAsgO (oLst (aCons (eTup (aCons (eOp oIdx (eVar 1) (eC (.int 0))) (aCons (eCall [.par] (sp__law_label A) (aCons (eVar 0) aNil)) (aCons (eC (.int 0)) aNil)))) aNil)) 3)
 (b__law_flat_t1 A))
theorem t__law_flat (A : Ad) : ∀ ds QR QO, sp__law_flat A ds QR QO → ds.length = 3 → b__law_flat A (endE [.par, .shr, .shr] ds QR QO) (startE 3 [.par, .shr, .shr] ds) := by
  rintro ds QR QO ⟨bag, ms, rfl, hb, ⟨h0, h1⟩, h⟩ _
  cases ms with
  | nil => exact absurd rfl h0
  | cons m ms =>
    refine wo_in (atI_g (d := D.str m) (by decide) rfl) ⟨rfl, bag, rfl, hb, fun s bag hs hb => ⟨sz _ rfl, sz _ rfl, rfl, ?_⟩⟩
    show b__law_flat_t1 A _ [.par bag, .shr (.lst ((m :: ms).map D.str)), .shr (.int 5), .own (.lst [fD (m, s, 0)]), .emp, .emp]
    show forL (gN 4) (b__law_flat_l1 A) _ (cutL ((m :: ms).map D.str) (some 1) none) [.par bag, .shr (.lst ((m :: ms).map D.str)), .shr (.int 5), .own (.lst [fD (m, s, 0)]), .emp, .emp]
    rw [cutL_1 _ (by simp)]
    show forL (gN 4) (b__law_flat_l1 A) _ (ms.map D.str) [.par bag, .shr (.lst ((m :: ms).map D.str)), .shr (.int 5), .own (.lst [fD (m, s, 0)]), .emp, .emp]
    refine for_inv (fun i ρ => ∃ bag xs s4 s5, isBag bag ∧ xs.map (·.1) = ms.take i ∧ (∀ y ∈ xs, gd 20 y.2.1) ∧ (∀ y ∈ xs, 1 ≤ y.2.2 ∧ y.2.2 ≤ 5) ∧ s4.locked = false ∧ s5.locked = false ∧ ρ = [.par bag, .shr (.lst ((m :: ms).map D.str)), .shr (.int 5), .own (.lst (((m, s, 0) :: xs).map fD)), s4, s5]) _ ?_ ?_ ⟨bag, [], .emp, .emp, hb, by simp, by simp, by simp, rfl, rfl, rfl⟩
    · rintro i d ρ N hd ⟨bag, xs, s4, s5, hb, hx, hg, hr, u4, u5, rfl⟩ hN
      rw [List.getElem?_map] at hd
      obtain ⟨mk, hmk, rfl⟩ := Option.map_eq_some_iff.mp hd
      have hlen : xs.length ≤ 100 := by
        have := congrArg List.length hx
        rw [List.length_map, List.length_take] at this
        rw [List.length_cons] at h1
        omega
      refine ⟨unF u4, ?_⟩
      show b__law_flat_l1 A _ [.par bag, .shr (.lst ((m :: ms).map D.str)), .shr (.int 5), .own (.lst (((m, s, 0) :: xs).map fD)), .shr (.str mk), s5]
      obtain ⟨last, hlast, hd5⟩ : ∃ last : Fl, ((m, s, 0) :: xs)[((m, s, 0) :: xs).length - 1]? = some last ∧ last.2.2 ≤ 5 := by
        refine ⟨_, List.getElem?_eq_getElem (by simp), ?_⟩
        have := List.getElem_mem (l := (m, s, 0) :: xs) (n := ((m, s, 0) :: xs).length - 1) (by simp)
        rcases List.mem_cons.mp this with e | e
        · rw [e]; exact Nat.zero_le _
        · exact (hr _ e).2
      have hat : L2.atI (((m, s, 0) :: xs).map fD) (-1) = some (fD last) := by
        refine atI_last ?_
        rw [List.length_map, List.getElem?_map, hlast]
        rfl
      refine wo_in hat ⟨unF u5, ?_⟩
      show b__law_flat_l1t1 A _ [.par bag, .shr (.lst ((m :: ms).map D.str)), .shr (.int 5), .own (.lst (((m, s, 0) :: xs).map fD)), .shr (.str mk), .shr (.int ((last.2.2 : Nat) + 1))]
      have tail : ∀ (E : E3) (j : Int), (∀ ρ', N ρ' → E.nx ρ') → 1 ≤ j → j ≤ 5 → b__law_flat_l1t2 A E [.par bag, .shr (.lst ((m :: ms).map D.str)), .shr (.int 5), .own (.lst (((m, s, 0) :: xs).map fD)), .shr (.str mk), .shr (.int j)] := by
        intro E j hE j0 j1
        refine ⟨rfl, rfl, bag, rfl, hb, fun lab bag hlab hb => ?_⟩
        refine ⟨rfl, bag, j, rfl, hb, ⟨by omega, by omega⟩, fun r bag r0 r1 hb => ?_⟩
        refine ⟨sz _ rfl, by rw [List.length_map, sizeLine_eq]; simp only [List.length_cons]; omega, hE _ (hN _ ?_)⟩
        refine ⟨bag, xs ++ [(mk, lab, (1 + r).toNat)], .shr (.str mk), .shr (.int j), hb, ?_, ?_, ?_, rfl, rfl, ?_⟩
        · rw [List.map_append, hx, List.take_add_one, hmk]; rfl
        · intro y hy
          rcases List.mem_append.mp hy with hy | hy
          · exact hg y hy
          · rw [List.mem_singleton.mp hy]; exact hlab
        · intro y hy
          rcases List.mem_append.mp hy with hy | hy
          · exact hr y hy
          · rw [List.mem_singleton.mp hy]; show 1 ≤ (1 + r).toNat ∧ (1 + r).toNat ≤ 5; omega
        · have e : ((m, s, 0) :: (xs ++ [(mk, lab, (1 + r).toNat)])).map fD = ((m, s, 0) :: xs).map fD ++ [.tup [.str mk, .str lab, .int (1 + r)]] := by
            rw [← List.cons_append, List.map_append]
            show _ ++ [D.tup [.str mk, .str lab, .int ((1 + r).toNat : Nat)]] = _
            rw [Int.toNat_of_nonneg (by omega)]
          rw [e]; rfl
      refine ifs (fun z => ?_) fun z => ?_
      · exact ⟨rfl, tail _ _ (fun _ h => h) (by decide) (by decide)⟩
      · have z : ¬ (5 : Int) < (last.2.2 : Nat) + 1 := fun q => z (decide_eq_true q)
        exact tail _ _ (fun _ h => h) (by omega) (by omega)
    · rintro ρ ⟨bag, xs, s4, s5, hb, hx, hg, hr, u4, u5, rfl⟩
      rw [List.length_map, List.take_length] at hx
      refine ⟨trivial, h (m, s, 0) xs bag (by rw [List.map_cons, hx]) ?_ rfl hr hb⟩
      intro y hy
      rcases List.mem_cons.mp hy with e | e
      · rw [e]; exact hs
      · exact hg y e

end K18
end L3

set_option Elab.async false
set_option linter.all false
set_option maxRecDepth 100000
set_option autoImplicit false
set_option maxHeartbeats 0
namespace L3
namespace K18
open PySem PySem.Spec L2
open PyProof.Rows (b2i)
theorem rev_last {α : Type} (x : α) (l : List α) : (x :: l).reverse[(x :: l).reverse.length - 1]? = some x := by
  rw [List.reverse_cons, List.length_append, List.length_singleton, Nat.add_sub_cancel, List.getElem?_append_right (Nat.le_refl _), Nat.sub_self]; rfl
theorem rev_drop {α : Type} (x : α) (l : List α) : (x :: l).reverse.dropLast = l.reverse := by rw [List.reverse_cons, List.dropLast_concat]
abbrev Fo := List (Nat × T)
def rD (p : Nat × T) : D := .tup [.int (p.1 : Nat), p.2.d]
def Fo.pre (F : Fo) : List T := T.pres (F.map (·.2))
def ml (t : T) : Str × Str := (t.m, t.l)
theorem ml_pre (t : T) : (t.pre).map ml = (t.m, t.l) :: (T.pres t.ks).map ml := by cases t; simp [T.pre, ml, T.m, T.l, T.ks]
theorem fD_at {fl : List Fl} {k : Nat} {x : Fl} (h : fl[k]? = some x) : L2.atI (fl.map fD) (k : Int) = some (fD x) := atI_nat (by rw [List.getElem?_map, h]; rfl)
def sp__law_grown (A : Ad) : S3 := fun ds QR _ => ∃ (x : Fl) (xs : List Fl), ds = [.lst ((x :: xs).map fD)] ∧ (x.2.2 = 0 ∧ (∀ y ∈ xs, 1 ≤ y.2.2 ∧ y.2.2 ≤ 5) ∧ xs.length ≤ 100) ∧ ∀ t : T, t.pre.map ml = (x :: xs).map (fun y => (y.1, y.2.1)) → t.ht ≤ 6 → QR t.d ds
def b__law_grown_l1l2 (A : Ad) : T3S := (sDrop (eBM "list" mAppend (eVar 3) (aCons (eOp oIdx (eBM0 "list" mPop (eVar 1)) (eC (.int 1))) aNil)))
def b__law_grown_l1t2 (A : Ad) : T3S := (sDrop (eBM "list" mAppend (eVar 1) (aCons (eTup (aCons (eOp oIdx (eOp oIdx (eVar 0) (eVar 2)) (eC (.int 2))) (aCons (eTup (aCons (eOp oIdx (eOp oIdx (eVar 0) (eVar 2)) (eC (.int 0))) (aCons (eOp oIdx (eOp oIdx (eVar 0) (eVar 2)) (eC (.int 1))) (aCons (eCB cTuple (aCons (eVar 3) aNil)) aNil)))) aNil))) aNil)))
def b__law_grown_l1t1 (A : Ad) : T3S := (sSeq (sWhile (fAnd (fTru (eVar 1)) (fTst (eOp oGt (eOp oIdx (eOp oIdx (eVar 1) (eNeg (eC (.int 1)))) (eC (.int 0))) (eOp oIdx (eOp oIdx (eVar 0) (eVar 2)) (eC (.int 2))))))
 (b__law_grown_l1l2 A))
 (b__law_grown_l1t2 A))
def b__law_grown_l1 (A : Ad) : T3S := (sSeq (sAsgO (oLst aNil) 3)
 (b__law_grown_l1t1 A))
def b__law_grown_t2 (A : Ad) : T3S := (sRet (eOp oIdx (eOp oIdx (eVar 1) (eC (.int 0))) (eC (.int 1))))
def b__law_grown_t1 (A : Ad) : T3S := (sSeq (sFor (iRm (aCons (eOp (oI0 fun i j => .int (i - j)) (eCB cLen (aCons (eVar 0) aNil)) (eC (.int 1))) (aCons (eNeg (eC (.int 1))) (aCons (eNeg (eC (.int 1))) aNil)))) (gN 2)
 (b__law_grown_l1 A))
 (b__law_grown_t2 A))
def b__law_grown (A : Ad) : T3S := (sSeq (sAsgO (oLst aNil) 1)
 (b__law_grown_t1 A))
theorem t__law_grown (A : Ad) : ∀ ds QR QO, sp__law_grown A ds QR QO → ds.length = 1 → b__law_grown A (endE [.shr] ds QR QO) (startE 3 [.shr] ds) := by
  rintro ds QR QO ⟨x, xs, rfl, ⟨hx0, hxs, hlen⟩, h⟩ _
  have hd5 : ∀ y ∈ x :: xs, y.2.2 ≤ 5 := by
    intro y hy
    rcases List.mem_cons.mp hy with e | e
    · rw [e, hx0]; decide
    · exact (hxs y e).2
  refine ⟨sz _ rfl, rfl, ?_⟩
  show b__law_grown_t1 A _ [.shr (.lst ((x :: xs).map fD)), .own (.lst []), .emp, .emp]
  have hn : ((x :: xs).map fD).length = xs.length + 1 := by rw [List.length_map, List.length_cons]
  generalize hfl : x :: xs = fl at *
  have hn : fl.length = xs.length + 1 := by rw [List.length_map] at hn; exact hn
  refine ⟨rfl, ⟨by rw [List.length_map]; omega, by rw [List.length_map]; omega, by decide, by decide⟩, ?_⟩
  rw [List.length_map]
  refine for_inv (fun i ρ => ∃ (F : Fo) (s2 s3 : Sl), i ≤ fl.length ∧ F.pre.map ml = (fl.drop (fl.length - i)).map (fun y => (y.1, y.2.1)) ∧ (∀ p ∈ F, p.1 + p.2.ht ≤ 6 ∧ ∃ y ∈ fl.drop (fl.length - i), y.2.2 = p.1) ∧ (i = fl.length → F.length = 1) ∧ F.length ≤ 101 ∧ F.length ≤ i ∧ s2.locked = false ∧ s3.locked = false ∧ ρ = [.shr (.lst (fl.map fD)), .own (.lst (F.map rD).reverse), s2, s3]) _ ?_ ?_ ⟨[], .emp, .emp, by omega, ?_, by simp, by intro e; omega, by decide, by simp, rfl, rfl, rfl⟩
  · rintro i d ρ N hd ⟨F, s2, s3, hi, hp, hF, -, hF1, hFi, u2, u3, rfl⟩ hN
    obtain ⟨hi2, rfl⟩ := rngD_get hd
    have hi3 : i < fl.length := by omega
    obtain ⟨k, hk⟩ : ∃ k : Nat, k = fl.length - 1 - i := ⟨_, rfl⟩
    have ek : ((fl.length : Nat) : Int) - 1 + (i : Nat) * (-1) = (k : Int) := by omega
    rw [ek]
    have hkl : k < fl.length := by omega
    have hfk : fl[k]? = some fl[k] := List.getElem?_eq_getElem hkl
    have hdk := hd5 fl[k] (List.getElem_mem hkl)
    have hdrop : fl.drop (fl.length - (i + 1)) = fl[k] :: fl.drop (fl.length - i) := by
      rw [show fl.length - (i + 1) = k by omega, show fl.length - i = k + 1 by omega]
      exact List.drop_eq_getElem_cons hkl
    have hk0 : k = 0 → fl[k].2.2 = 0 ∧ fl.drop (fl.length - i) = xs := by
      intro e
      subst e
      refine ⟨?_, by rw [show fl.length - i = 1 by omega, ← hfl]; rfl⟩
      have : fl[0]? = some x := by rw [← hfl]; rfl
      rw [hfk] at this
      rw [Option.some.inj this]; exact hx0
    generalize fl[k] = y at hfk hdk hdrop hk0
    refine ⟨unF u2, ?_⟩
    show b__law_grown_l1 A _ [.shr (.lst (fl.map fD)), .own (.lst (F.map rD).reverse), .shr (.int (k : Nat)), s3]
    refine ⟨sz _ rfl, unF u3, ?_⟩
    show b__law_grown_l1t1 A _ [.shr (.lst (fl.map fD)), .own (.lst (F.map rD).reverse), .shr (.int (k : Nat)), .own (.lst [])]
    refine ⟨fun m ρ => ∃ (b : List T) (F' : Fo), m = F'.length ∧ T.pres b ++ Fo.pre F' = Fo.pre F ∧ (∀ t ∈ b, y.2.2 + 1 + t.ht ≤ 6) ∧ (∀ p ∈ F', p ∈ F) ∧ b.length + F'.length = F.length ∧ ρ = [.shr (.lst (fl.map fD)), .own (.lst (F'.map rD).reverse), .shr (.int (k : Nat)), .own (.lst (b.map T.d))], ⟨F.length, [], F, rfl, rfl, by simp, fun p hp => hp, by simp, rfl⟩, ?_⟩
    rintro m ρ ⟨b, F', rfl, hb1, hb2, hb3, hb4, rfl⟩
    have last : (F' = [] ∨ ∃ p F'', F' = p :: F'' ∧ p.1 ≤ y.2.2) → ∀ E : E3, (∀ ρ', N ρ' → E.nx ρ') → b__law_grown_l1t2 A E [.shr (.lst (fl.map fD)), .own (.lst (F'.map rD).reverse), .shr (.int (k : Nat)), .own (.lst (b.map T.d))] := by
      intro hlast E hE
      have et : (T.nd y.1 y.2.1 b).d = .tup [.str y.1, .str y.2.1, .tup (b.map T.d)] := T.d_eq _
      have hsz : ((F'.map rD).reverse).length < sizeLine := by
        rw [List.length_reverse, List.length_map, sizeLine_eq]; omega
      refine ⟨rfl, wo_in (fD_at hfk) (wo_in (fD_at hfk) (wo_in (fD_at hfk) ⟨sz _ rfl, sz _ rfl, hsz, hE _ (hN _ ⟨(y.2.2, T.nd y.1 y.2.1 b) :: F', .shr (.int (k : Nat)), .own (.lst (b.map T.d)), by omega, ?_, ?_, ?_, ?_, ?_, rfl, rfl, ?_⟩)⟩))⟩
      · rw [hdrop, List.map_cons, ← hp, ← hb1]
        simp [Fo.pre, T.pres, T.pre, ml, T.m, T.l]
      · intro q hq
        rw [hdrop]
        rcases List.mem_cons.mp hq with e | e
        · rw [e]
          refine ⟨?_, y, List.mem_cons_self .., rfl⟩
          show y.2.2 + (T.hts b + 1) ≤ 6
          have : T.hts b ≤ 5 - y.2.2 := hts_le fun t ht => by have := hb2 t ht; omega
          omega
        · obtain ⟨h1, z, hz, h2⟩ := hF q (hb3 q e)
          exact ⟨h1, z, List.mem_cons_of_mem _ hz, h2⟩
      · intro e
        obtain ⟨e0, e1⟩ := hk0 (by omega)
        rcases hlast with e2 | ⟨p, F2, e2, e3⟩
        · rw [e2]; rfl
        · obtain ⟨h1, z, hz, h2⟩ := hF p (hb3 p (by rw [e2]; exact List.mem_cons_self ..))
          rw [e1] at hz
          have := (hxs z hz).1
          omega
      · rw [List.length_cons]; omega
      · rw [List.length_cons]; omega
      · rw [List.map_cons, List.reverse_cons]
        unfold rD
        rw [et]; rfl
    cases F' with
    | nil => exact last (.inl rfl) _ fun _ h => h
    | cons p F' =>
      refine ift (by simp) (wo_in (atI_last (rev_last (rD p) (F'.map rD))) (wo_in (fD_at hfk) (ifs (fun z => ?_) fun z => ?_)))
      · have z : ((y.2.2 : Nat) : Int) < (p.1 : Nat) := of_decide_eq_true z
        refine ⟨rfl, rfl, wo_in (rev_last (rD p) (F'.map rD)) ?_⟩
        have hb : b.length ≤ 101 := by rw [List.length_cons] at hb4; omega
        refine ⟨by rw [List.length_map, sizeLine_eq]; omega, F'.length, by rw [List.length_cons]; omega, b ++ [p.2], F', rfl, ?_, ?_, fun q hq => hb3 q (List.mem_cons_of_mem _ hq), by rw [List.length_append, List.length_singleton]; rw [List.length_cons] at hb4; omega, ?_⟩
        · rw [pres_app, ← hb1]
          simp [Fo.pre, T.pres]
        · intro t ht
          rcases List.mem_append.mp ht with ht | ht
          · exact hb2 t ht
          · rw [List.mem_singleton.mp ht]
            have := (hF p (hb3 p (List.mem_cons_self ..))).1
            omega
        · show [Sl.shr (.lst (fl.map fD)), .own (.lst ((p :: F').map rD).reverse.dropLast), .shr (.int (k : Nat)), .own (.lst (b.map T.d ++ [p.2.d]))] = _
          rw [List.map_append, List.map_cons, rev_drop]; rfl
      · have z : ¬ ((y.2.2 : Nat) : Int) < (p.1 : Nat) := fun q => z (decide_eq_true q)
        exact last (.inr ⟨p, F', rfl, by omega⟩) _ fun _ h => h
  · rintro ρ ⟨F, s2, s3, hi, hp, hF, hone, hF1, hFi, u2, u3, rfl⟩
    rw [rngD_len] at hi hp hF hone
    have e : ((fl.length : Nat) : Int) - 1 - -1 = (fl.length : Nat) := by omega
    rw [e, Int.toNat_natCast] at hi hp hF hone
    have := hone rfl
    match F, this with
    | [p], _ =>
      refine ⟨trivial, ?_⟩
      rw [Nat.sub_self, List.drop_zero] at hp
      refine h p.2 ?_ (by have := (hF p (List.mem_cons_self ..)).1; omega)
      rw [← hp]
      simp [Fo.pre, T.pres]
  · rw [Nat.sub_zero, List.drop_length]; rfl

end K18
end L3

set_option Elab.async false
set_option linter.all false
set_option maxRecDepth 100000
set_option autoImplicit false
set_option maxHeartbeats 0
namespace L3
namespace K18
open PySem PySem.Spec L2
open PyProof.Rows (b2i)
structure T.good (t : T) : Prop where
  nd : (t.pre.map T.m).Nodup
  len : t.pre.length ≤ 40
  ht : t.ht ≤ 6
  ok : ∀ n ∈ t.pre, gd 59 n.m ∧ gd 20 n.l
theorem gd_cut {n : Nat} {s : Str} (h : gd n s) (lo hi : Option Int) : gd n (cutS s lo hi) := by
  refine ⟨Nat.le_trans (cutS_length s lo hi) h.1, ?_⟩
  have := h.2
  unfold PyData.strOk at *
  rw [← Array.all_toList] at *
  rw [List.all_eq_true] at *
  intro c hc
  refine this c ?_
  have hc : c ∈ (s.cps.toList.drop (HT.sIx s.length 0 lo)).take (HT.sIx s.length s.length hi - HT.sIx s.length 0 lo) := hc
  exact List.mem_of_mem_drop (List.mem_of_mem_take hc)
theorem good_of {t : T} {x : Fl} {xs : List Fl} {ms : List Str} (e : t.pre.map ml = (x :: xs).map (fun y => (y.1, y.2.1))) (hm : (x :: xs).map (·.1) = ms) (hn : ms.Nodup) (hl : ms.length ≤ 40) (hg : ∀ m ∈ ms, gd 59 m) (hx : ∀ y ∈ x :: xs, gd 20 y.2.1) (hh : t.ht ≤ 6) : t.good := by
  have e1 : t.pre.map T.m = ms := by
    have := congrArg (List.map Prod.fst) e
    rw [List.map_map, List.map_map] at this
    exact this.trans hm
  refine ⟨by rw [e1]; exact hn, ?_, hh, ?_⟩
  · have := congrArg List.length e1
    rw [List.length_map] at this; omega
  · intro n hnm
    refine ⟨hg _ (e1 ▸ List.mem_map_of_mem hnm), ?_⟩
    have : ml n ∈ (x :: xs).map (fun y => (y.1, y.2.1)) := e ▸ List.mem_map_of_mem hnm
    obtain ⟨y, hy, e2⟩ := List.mem_map.mp this
    have : n.l = y.2.1 := (congrArg Prod.snd e2).symm
    rw [this]; exact hx y hy
def sp__law_tree (A : Ad) : S3 := fun ds QR _ => ∃ (bag : D), ds = [bag] ∧ isBag bag ∧ ∀ (t : T) bag', t.good → isBag bag' → QR t.d [bag']
def b__law_tree_c1t1 (A : Ad) : T3S := (sRet (eCall [.shr] (sp__law_grown A) (aCons (eShr (oLc (iS (eVar 1)) (gT 3 (fun xs ρ Q => match xs with | x :: r => (gN 2) x ρ fun ρ1 => (fun xs ρ Q => match xs with | x :: r => (gN 3) x ρ fun ρ1 => (fun xs ρ Q => match xs with | x :: r => (gN 4) x ρ fun ρ1 => (fun xs ρ Q => xs = [] ∧ Q ρ) r ρ1 Q | [] => False) r ρ1 Q | [] => False) r ρ1 Q | [] => False)) fYes (eTup (aCons (eVar 2) (aCons (eSl (eVar 3) pNo (pSo (eC (.int 3)))) (aCons (eVar 4) aNil)))) [2, 3, 4])) aNil)))
def b__law_tree_t1 (A : Ad) : T3S := (sRet (eCall [.shr] (sp__law_grown A) (aCons (eCall [.par, .shr, .shr] (sp__law_flat A) (aCons (eVar 0) (aCons (eCall [.par, .shr] (sp__law_marks A) (aCons (eVar 0) (aCons (eOp oAdd (eC (.int 1)) (eCall [.par, .shr] (sp__law_pick A) (aCons (eVar 0) (aCons (eC (.int 14)) aNil)))) aNil))) (aCons (eC (.int 5)) aNil)))) aNil)))
def b__law_tree (A : Ad) : T3S := (sSeq (sIf (fTst (eOp (oEq false) (eCall [.par, .shr] (sp__law_pick A) (aCons (eVar 0) (aCons (eC (.int 8)) aNil))) (eC (.int 7))))
 (sSeq (sAsg (eCall [.par, .shr, .shr] (sp__law_flat A) (aCons (eVar 0) (aCons (eCall [.par, .shr] (sp__law_marks A) (aCons (eVar 0) (aCons (eOp oAdd (eC (.int 15)) (eCall [.par, .shr] (sp__law_pick A) (aCons (eVar 0) (aCons (eC (.int 26)) aNil)))) aNil))) (aCons (eC (.int 5)) aNil)))) (gN 1))
 (b__law_tree_c1t1 A))
 sNext)
 (b__law_tree_t1 A))
theorem t__law_tree (A : Ad) : ∀ ds QR QO, sp__law_tree A ds QR QO → ds.length = 1 → b__law_tree A (endE [.par] ds QR QO) (startE 4 [.par] ds) := by
  rintro ds QR QO ⟨bag, rfl, hb, h⟩ _
  refine ⟨rfl, bag, 8, rfl, hb, ⟨by decide, by decide⟩, fun way bag w0 w1 hb => ?_⟩
  refine ⟨rfl, rfl, ifs (fun z => ?_) fun z => ?_⟩
  · refine ⟨rfl, bag, 26, rfl, hb, ⟨by decide, by decide⟩, fun r bag r0 r1 hb => ?_⟩
    obtain ⟨c, hc⟩ := Int.eq_ofNat_of_zero_le (show 0 ≤ 15 + r by omega)
    refine ⟨rfl, bag, c, by rw [hc], hb, by omega, fun ms bag hm1 hm2 hm3 hb => ?_⟩
    refine ⟨rfl, bag, ms, rfl, hb, ⟨by intro e; rw [e] at hm1; simp at hm1; omega, by omega⟩, fun x xs bag hx hg h0 hr hb => ⟨rfl, ?_⟩⟩
    show b__law_tree_c1t1 A _ [.par bag, .shr (.lst ((x :: xs).map fD)), .emp, .emp, .emp]
    have hlen : (x :: xs).length ≤ 40 := by
      have := congrArg List.length hx
      rw [List.length_map] at this; omega
    let cu : Fl → Fl := fun y => (y.1, cutS y.2.1 none (some 3), y.2.2)
    refine lc_of (ρ := [.par bag, .shr (.lst ((x :: xs).map fD)), .emp, .emp, .emp]) (x :: xs) fD (fun y => some (fD (cu y))) rfl rfl (by rw [sizeLine_eq]; omega) (fun y hy acc N hl hN => ?_) ⟨trivial, ?_⟩
    · have hs := gd_sl (hg y hy) (by decide)
      exact ⟨rfl, rfl, rfl, rfl, rfl, hs, sz _ rfl, hl, hN⟩
    · have e : (x :: xs).filterMap (fun y => some (fD (cu y))) = (cu x :: xs.map cu).map fD := by
        rw [show (fun y => some (fD (cu y))) = fun y => some ((fun y => fD (cu y)) y) from rfl, fm_all]
        rw [List.map_cons, List.map_cons, List.map_map]; rfl
      rw [e]
      refine ⟨rfl, cu x, xs.map cu, rfl, ⟨h0, ?_, by rw [List.length_map]; rw [List.length_cons] at hlen; omega⟩, fun t e hh => h t bag (good_of e ?_ hm2 (by omega) hm3 ?_ hh) hb⟩
      · intro y hy
        obtain ⟨z, hz, rfl⟩ := List.mem_map.mp hy
        exact hr z hz
      · rw [← hx, List.map_cons, List.map_cons, List.map_map]; rfl
      · intro y hy
        rw [← List.map_cons (f := cu)] at hy
        obtain ⟨z, hz, rfl⟩ := List.mem_map.mp hy
        exact gd_cut (hg z hz) _ _
  · show b__law_tree_t1 A _ [.par bag, .emp, .emp, .emp, .emp]
    refine ⟨rfl, bag, 14, rfl, hb, ⟨by decide, by decide⟩, fun r bag r0 r1 hb => ?_⟩
    obtain ⟨c, hc⟩ := Int.eq_ofNat_of_zero_le (show 0 ≤ 1 + r by omega)
    refine ⟨rfl, bag, c, by rw [hc], hb, by omega, fun ms bag hm1 hm2 hm3 hb => ?_⟩
    refine ⟨rfl, bag, ms, rfl, hb, ⟨by intro e; rw [e] at hm1; simp at hm1; omega, by omega⟩, fun x xs bag hx hg h0 hr hb => ?_⟩
    have hlen : (x :: xs).length ≤ 40 := by
      have := congrArg List.length hx
      rw [List.length_map] at this; omega
    exact ⟨rfl, x, xs, rfl, ⟨h0, hr, by rw [List.length_cons] at hlen; omega⟩, fun t e hh => h t bag (good_of e hx hm2 (by omega) hm3 hg hh) hb⟩

end K18
end L3

set_option Elab.async false
set_option linter.all false
set_option maxRecDepth 100000
set_option autoImplicit false
set_option maxHeartbeats 0
namespace L3
namespace K18
open PySem PySem.Spec L2
open PyProof.Rows (b2i)
/-! ### sizes, boxes, pictures -/
def isRow (l : Str) : Bool := D.eqv (.str l) (.str "row")
def isRC (l : Str) : Bool := isRow l || D.eqv (.str l) (.str "col")
def sumW : List (Nat × Nat) → Nat
  | [] => 0
  | s :: r => s.1 + sumW r
def sumH : List (Nat × Nat) → Nat
  | [] => 0
  | s :: r => s.2 + sumH r
def maxW : List (Nat × Nat) → Nat
  | [] => 0
  | s :: r => max s.1 (maxW r)
def maxH : List (Nat × Nat) → Nat
  | [] => 0
  | s :: r => max s.2 (maxH r)
def meas (l : Str) (ss : List (Nat × Nat)) : Nat × Nat :=
  if ss.isEmpty then (if isRC l then (0, 0) else (l.length, 1)) else if isRow l then (sumW ss, maxH ss) else (maxW ss, sumH ss)
mutual
def T.sz : T → Nat × Nat
  | .nd _ l ks => meas l (T.szs ks)
def T.szs : List T → List (Nat × Nat)
  | [] => []
  | t :: ts => t.sz :: T.szs ts
end
theorem szs_map : ∀ ts : List T, T.szs ts = ts.map T.sz
  | [] => by simp [T.szs]
  | t :: ts => by simp [T.szs, szs_map ts]
theorem T.sz_eq (t : T) : t.sz = meas t.l (t.ks.map T.sz) := by cases t; simp [T.sz, T.l, T.ks, szs_map]
structure Bx where
  x : Nat
  y : Nat
  w : Nat
  h : Nat
mutual
def T.bx : T → Nat → Nat → List (Str × Bx)
  | .nd m l ks, x, y => (m, ⟨x, y, (T.nd m l ks).sz.1, (T.nd m l ks).sz.2⟩) :: T.bxs (isRow l) ks x y
def T.bxs : Bool → List T → Nat → Nat → List (Str × Bx)
  | _, [], _, _ => []
  | r, t :: ts, x, y => t.bx x y ++ T.bxs r ts (if r then x + t.sz.1 else x) (if r then y else y + t.sz.2)
end
mutual
def T.pic : T → List (List Str)
  | .nd m l ks => if ks.isEmpty then (if isRC l then [] else [List.replicate l.length m])
      else if isRow l then (List.range (maxH (T.szs ks))).map (fun y => T.rowL m ks y) else T.colL m (maxW (T.szs ks)) ks
def T.rowL (m : Str) : List T → Nat → List Str
  | [], _ => []
  | t :: ts, y => (t.pic[y]?).getD (List.replicate t.sz.1 m) ++ T.rowL m ts y
def T.colL (m : Str) (w : Nat) : List T → List (List Str)
  | [] => []
  | t :: ts => t.pic.map (fun line => line ++ List.replicate (w - t.sz.1) m) ++ T.colL m w ts
end
mutual
def T.lns : T → List Str → List (Str × List Str)
  | .nd m _ ks, ab => (m, ab ++ [m]) :: T.lnss ks (ab ++ [m])
def T.lnss : List T → List Str → List (Str × List Str)
  | [], _ => []
  | t :: ts, ab => t.lns ab ++ T.lnss ts ab
end
def inB (b : Bx) (p q : Nat) : Bool := decide (b.x ≤ p ∧ p < b.x + b.w ∧ b.y ≤ q ∧ q < b.y + b.h)
def inn (L : List (Str × Bx)) (p q : Nat) : List Str := (L.filter fun b => inB b.2 p q).map (·.1)
theorem inn_app (L M : List (Str × Bx)) (p q : Nat) : inn (L ++ M) p q = inn L p q ++ inn M p q := by simp [inn]
theorem inn_nil {L : List (Str × Bx)} {p q : Nat} (h : ∀ b ∈ L, inB b.2 p q = false) : inn L p q = [] := by
  unfold inn
  rw [List.filter_eq_nil_iff.mpr fun b hb => by rw [h b hb]; exact Bool.false_ne_true]
  rfl
/-- each box lies in the box of the whole -/
def within (b : Bx) (x y w h : Nat) : Prop := x ≤ b.x ∧ b.x + b.w ≤ x + w ∧ y ≤ b.y ∧ b.y + b.h ≤ y + h
mutual
theorem T.bx_in : ∀ (t : T) (x y : Nat), ∀ b ∈ t.bx x y, within b.2 x y t.sz.1 t.sz.2
  | .nd m l ks, x, y => by
    intro b hb
    simp only [T.bx] at hb
    rcases List.mem_cons.mp hb with e | hb
    · rw [e]; exact ⟨Nat.le_refl _, Nat.le_refl _, Nat.le_refl _, Nat.le_refl _⟩
    · have hk : (T.szs ks).isEmpty = false := by
        cases ks with
        | nil => simp [T.bxs] at hb
        | cons k ks => simp [T.szs]
      simp only [T.sz, meas, hk]
      cases hr : isRow l with
      | true =>
        rw [hr] at hb
        simpa using T.bxs_row ks x y b hb
      | false =>
        rw [hr] at hb
        simpa using T.bxs_col ks x y b hb
theorem T.bxs_row : ∀ (ts : List T) (x y : Nat), ∀ b ∈ T.bxs true ts x y, within b.2 x y (sumW (T.szs ts)) (maxH (T.szs ts))
  | [], x, y => by intro b hb; simp [T.bxs] at hb
  | t :: ts, x, y => by
    intro b hb
    simp only [T.bxs, if_true] at hb
    simp only [T.szs, sumW, maxH]
    rcases List.mem_append.mp hb with hb | hb
    · obtain ⟨h1, h2, h3, h4⟩ := T.bx_in t x y b hb
      exact ⟨h1, by omega, h3, by omega⟩
    · obtain ⟨h1, h2, h3, h4⟩ := T.bxs_row ts _ _ b hb
      exact ⟨by omega, by omega, h3, by omega⟩
theorem T.bxs_col : ∀ (ts : List T) (x y : Nat), ∀ b ∈ T.bxs false ts x y, within b.2 x y (maxW (T.szs ts)) (sumH (T.szs ts))
  | [], x, y => by intro b hb; simp [T.bxs] at hb
  | t :: ts, x, y => by
    intro b hb
    simp only [T.bxs] at hb
    simp only [T.szs, maxW, sumH]
    rcases List.mem_append.mp hb with hb | hb
    · obtain ⟨h1, h2, h3, h4⟩ := T.bx_in t x y b hb
      exact ⟨h1, by omega, h3, by omega⟩
    · obtain ⟨h1, h2, h3, h4⟩ := T.bxs_col ts _ _ b hb
      simp only [Bool.false_eq_true, if_false] at h1 h2 h3 h4
      exact ⟨by omega, by omega, by omega, by omega⟩
end
theorem not_in {b : Bx} {x y w h p q : Nat} (c : within b x y w h) (n : ¬ (x ≤ p ∧ p < x + w ∧ y ≤ q ∧ q < y + h)) : inB b p q = false := by
  obtain ⟨h1, h2, h3, h4⟩ := c
  unfold inB
  rw [decide_eq_false_iff_not]
  intro ⟨a1, a2, a3, a4⟩
  exact n ⟨by omega, by omega, by omega, by omega⟩
theorem inn_out {t : T} {x y p q : Nat} (n : ¬ (x ≤ p ∧ p < x + t.sz.1 ∧ y ≤ q ∧ q < y + t.sz.2)) : inn (t.bx x y) p q = [] := inn_nil fun b hb => not_in (T.bx_in t x y b hb) n

end K18
end L3

set_option Elab.async false
set_option linter.all false
set_option maxRecDepth 100000
set_option autoImplicit false
set_option maxHeartbeats 0
namespace L3
namespace K18
open PySem PySem.Spec L2
open PyProof.Rows (b2i)
mutual
theorem T.pic_dim : ∀ t : T, t.pic.length = t.sz.2 ∧ ∀ line ∈ t.pic, line.length = t.sz.1
  | .nd m l ks => by
    cases ks with
    | nil =>
      simp only [T.pic, T.sz, T.szs, meas, List.isEmpty_nil, if_true]
      cases isRC l <;> simp
    | cons k ks =>
      simp only [T.pic, T.sz, meas, List.isEmpty_cons, T.szs, Bool.false_eq_true, if_false]
      cases hr : isRow l with
      | true =>
        simp only [if_true]
        refine ⟨by simp, fun line hl => ?_⟩
        obtain ⟨y, _, rfl⟩ := List.mem_map.mp hl
        have := T.rowL_len m (k :: ks) y
        simpa [T.szs] using this
      | false =>
        simp only [Bool.false_eq_true, if_false]
        have := T.colL_dim m (maxW (T.szs (k :: ks))) (k :: ks) (Nat.le_refl _)
        simpa [T.szs] using this
theorem T.rowL_len (m : Str) : ∀ (ts : List T) (y : Nat), (T.rowL m ts y).length = sumW (T.szs ts)
  | [], y => by simp [T.rowL, T.szs, sumW]
  | t :: ts, y => by
    simp only [T.rowL, T.szs, sumW, List.length_append, T.rowL_len m ts y]
    congr 1
    cases h : t.pic[y]? with
    | none => simp
    | some line => exact (T.pic_dim t).2 line (List.mem_of_getElem? h)
theorem T.colL_dim (m : Str) (w : Nat) : ∀ (ts : List T), maxW (T.szs ts) ≤ w → (T.colL m w ts).length = sumH (T.szs ts) ∧ ∀ line ∈ T.colL m w ts, line.length = w
  | [], _ => by simp [T.colL, T.szs, sumH]
  | t :: ts, hw => by
    simp only [T.szs, maxW] at hw
    obtain ⟨h1, h2⟩ := T.colL_dim m w ts (by omega)
    obtain ⟨h3, h4⟩ := T.pic_dim t
    refine ⟨by simp only [T.colL, T.szs, sumH, List.length_append, List.length_map, h1, h3], fun line hl => ?_⟩
    simp only [T.colL] at hl
    rcases List.mem_append.mp hl with hl | hl
    · obtain ⟨z, hz, rfl⟩ := List.mem_map.mp hl
      rw [List.length_append, h4 z hz, List.length_replicate]; omega
    · exact h2 line hl
end
theorem get_app1 {α : Type} {l r : List α} {i : Nat} (h : i < l.length) : (l ++ r)[i]? = l[i]? := List.getElem?_append_left h
theorem get_app2 {α : Type} {l r : List α} {i : Nat} (h : l.length ≤ i) : (l ++ r)[i]? = r[i - l.length]? := List.getElem?_append_right h
theorem get_rep {α : Type} {a : α} {n i : Nat} (h : i < n) : (List.replicate n a)[i]? = some a := by rw [List.getElem?_replicate, if_pos h]
mutual
theorem T.geo : ∀ (t : T) (x y i j : Nat), i < t.sz.1 → j < t.sz.2 → ∃ pre m, inn (t.bx x y) (x + i) (y + j) = pre ++ [m] ∧ (∃ line, t.pic[j]? = some line ∧ line[i]? = some m) ∧ ∀ ab, (m, ab ++ pre ++ [m]) ∈ t.lns ab
  | .nd m l ks, x, y, i, j, hi, hj => by
    have hself : inB ⟨x, y, (T.nd m l ks).sz.1, (T.nd m l ks).sz.2⟩ (x + i) (y + j) = true := by
      unfold inB
      rw [decide_eq_true_eq]
      exact ⟨Nat.le_add_right _ _, Nat.add_lt_add_left hi _, Nat.le_add_right _ _, Nat.add_lt_add_left hj _⟩
    have hinn : inn ((T.nd m l ks).bx x y) (x + i) (y + j) = m :: inn (T.bxs (isRow l) ks x y) (x + i) (y + j) := by
      simp only [T.bx]
      unfold inn
      rw [List.filter_cons_of_pos (by exact hself)]; rfl
    have fin : ∀ line, (T.nd m l ks).pic[j]? = some line → ((inn (T.bxs (isRow l) ks x y) (x + i) (y + j) = [] ∧ line[i]? = some m) ∨ ∃ pre k, inn (T.bxs (isRow l) ks x y) (x + i) (y + j) = pre ++ [k] ∧ line[i]? = some k ∧ ∀ ab, (k, ab ++ pre ++ [k]) ∈ T.lnss ks ab) →
        ∃ pre m', inn ((T.nd m l ks).bx x y) (x + i) (y + j) = pre ++ [m'] ∧ (∃ line, (T.nd m l ks).pic[j]? = some line ∧ line[i]? = some m') ∧ ∀ ab, (m', ab ++ pre ++ [m']) ∈ (T.nd m l ks).lns ab := by
      rintro line hl (⟨h1, h2⟩ | ⟨pre, k, h1, h2, h3⟩)
      · exact ⟨[], m, by rw [hinn, h1]; rfl, ⟨line, hl, h2⟩, fun ab => by simp [T.lns]⟩
      · refine ⟨m :: pre, k, by rw [hinn, h1]; rfl, ⟨line, hl, h2⟩, fun ab => ?_⟩
        have := h3 (ab ++ [m])
        simp only [T.lns]
        refine List.mem_cons_of_mem _ ?_
        simpa using this
    cases ks with
    | nil =>
      simp only [T.sz, T.szs, meas, List.isEmpty_nil, if_true] at hi hj
      cases hc : isRC l with
      | true => rw [hc] at hi; simp at hi
      | false =>
        rw [hc] at hi hj
        simp only [Bool.false_eq_true, if_false] at hi hj
        have : j = 0 := by omega
        subst this
        exact fin (List.replicate l.length m) (by simp [T.pic, hc]) (.inl ⟨by simp [T.bxs, inn], get_rep hi⟩)
    | cons k ks =>
      simp only [T.sz, meas, List.isEmpty_cons, T.szs, Bool.false_eq_true, if_false] at hi hj
      cases hr : isRow l with
      | true =>
        rw [hr] at hi hj fin
        simp only [if_true] at hi hj
        refine fin (T.rowL m (k :: ks) j) ?_ (T.geo_row m (k :: ks) x y i j (by simpa [T.szs] using hi))
        simp only [T.pic, List.isEmpty_cons, Bool.false_eq_true, if_false, hr, if_true]
        rw [List.getElem?_map, List.getElem?_range (by simpa [T.szs] using hj)]; rfl
      | false =>
        rw [hr] at hi hj fin
        simp only [Bool.false_eq_true, if_false] at hi hj
        obtain ⟨line, h1, h2⟩ := T.geo_col m (maxW (T.szs (k :: ks))) (k :: ks) (Nat.le_refl _) x y i j (by simpa [T.szs] using hi) (by simpa [T.szs] using hj)
        refine fin line ?_ h2
        simp only [T.pic, List.isEmpty_cons, Bool.false_eq_true, if_false, hr]
        exact h1
theorem T.geo_row (m : Str) : ∀ (ts : List T) (x y i j : Nat), i < sumW (T.szs ts) →
    ((inn (T.bxs true ts x y) (x + i) (y + j) = [] ∧ (T.rowL m ts j)[i]? = some m) ∨ ∃ pre k, inn (T.bxs true ts x y) (x + i) (y + j) = pre ++ [k] ∧ (T.rowL m ts j)[i]? = some k ∧ ∀ ab, (k, ab ++ pre ++ [k]) ∈ T.lnss ts ab)
  | [], x, y, i, j, hi => by simp [T.szs, sumW] at hi
  | t :: ts, x, y, i, j, hi => by
    simp only [T.szs, sumW] at hi
    have hlen : ((t.pic[j]?).getD (List.replicate t.sz.1 m)).length = t.sz.1 := by
      cases h : t.pic[j]? with
      | none => simp
      | some line => exact (T.pic_dim t).2 line (List.mem_of_getElem? h)
    simp only [T.bxs, if_true, inn_app, T.rowL, T.lnss]
    by_cases hw : i < t.sz.1
    · have hrest : inn (T.bxs true ts (x + t.sz.1) y) (x + i) (y + j) = [] := inn_nil fun b hb => not_in (T.bxs_row ts _ _ b hb) (by omega)
      rw [hrest, List.append_nil, get_app1 (by rw [hlen]; exact hw)]
      by_cases hh : j < t.sz.2
      · obtain ⟨pre, k, h1, ⟨line, h2, h3⟩, h4⟩ := T.geo t x y i j hw hh
        refine .inr ⟨pre, k, h1, by rw [h2]; exact h3, fun ab => List.mem_append_left _ (h4 ab)⟩
      · refine .inl ⟨inn_out (by omega), ?_⟩
        have : t.pic[j]? = none := List.getElem?_eq_none (by rw [(T.pic_dim t).1]; omega)
        rw [this]
        exact get_rep hw
    · have hfst : inn (t.bx x y) (x + i) (y + j) = [] := inn_out (by omega)
      rw [hfst, List.nil_append, get_app2 (by rw [hlen]; omega), hlen]
      have ih := T.geo_row m ts (x + t.sz.1) y (i - t.sz.1) j (by omega)
      rw [show x + t.sz.1 + (i - t.sz.1) = x + i by omega] at ih
      rcases ih with h | ⟨pre, k, h1, h2, h3⟩
      · exact .inl h
      · exact .inr ⟨pre, k, h1, h2, fun ab => List.mem_append_right _ (h3 ab)⟩
theorem T.geo_col (m : Str) (w : Nat) : ∀ (ts : List T), maxW (T.szs ts) ≤ w → ∀ (x y i j : Nat), i < w → j < sumH (T.szs ts) → ∃ line, (T.colL m w ts)[j]? = some line ∧
    ((inn (T.bxs false ts x y) (x + i) (y + j) = [] ∧ line[i]? = some m) ∨ ∃ pre k, inn (T.bxs false ts x y) (x + i) (y + j) = pre ++ [k] ∧ line[i]? = some k ∧ ∀ ab, (k, ab ++ pre ++ [k]) ∈ T.lnss ts ab)
  | [], hw, x, y, i, j, hi, hj => by simp [T.szs, sumH] at hj
  | t :: ts, hw, x, y, i, j, hi, hj => by
    simp only [T.szs, maxW] at hw
    simp only [T.szs, sumH] at hj
    have hlen : (t.pic.map fun line => line ++ List.replicate (w - t.sz.1) m).length = t.sz.2 := by rw [List.length_map, (T.pic_dim t).1]
    simp only [T.bxs, Bool.false_eq_true, if_false, inn_app, T.colL, T.lnss]
    by_cases hh : j < t.sz.2
    · have hrest : inn (T.bxs false ts x (y + t.sz.2)) (x + i) (y + j) = [] := inn_nil fun b hb => not_in (T.bxs_col ts _ _ b hb) (by omega)
      rw [hrest, List.append_nil, get_app1 (by rw [hlen]; exact hh), List.getElem?_map]
      have hj2 : j < t.pic.length := by rw [(T.pic_dim t).1]; exact hh
      have hll : (t.pic[j]).length = t.sz.1 := (T.pic_dim t).2 _ (List.getElem_mem hj2)
      rw [List.getElem?_eq_getElem hj2]
      refine ⟨_, rfl, ?_⟩
      by_cases hwi : i < t.sz.1
      · obtain ⟨pre, k, h1, ⟨line, h2, h3⟩, h4⟩ := T.geo t x y i j hwi hh
        rw [List.getElem?_eq_getElem hj2] at h2
        have h2 := Option.some.inj h2
        refine .inr ⟨pre, k, h1, ?_, fun ab => List.mem_append_left _ (h4 ab)⟩
        rw [get_app1 (by rw [hll]; exact hwi), h2]; exact h3
      · refine .inl ⟨inn_out (by omega), ?_⟩
        rw [get_app2 (by rw [hll]; omega), hll]
        exact get_rep (by omega)
    · have hfst : inn (t.bx x y) (x + i) (y + j) = [] := inn_out (by omega)
      rw [hfst, List.nil_append, get_app2 (by rw [hlen]; omega), hlen]
      obtain ⟨line, h0, h⟩ := T.geo_col m w ts (by omega) x (y + t.sz.2) i (j - t.sz.2) hi (by omega)
      rw [show y + t.sz.2 + (j - t.sz.2) = y + j by omega] at h
      refine ⟨line, h0, ?_⟩
      rcases h with h | ⟨pre, k, h1, h2, h3⟩
      · exact .inl h
      · exact .inr ⟨pre, k, h1, h2, fun ab => List.mem_append_right _ (h3 ab)⟩
end

end K18
end L3

set_option Elab.async false
set_option linter.all false
set_option maxRecDepth 100000
set_option autoImplicit false
set_option maxHeartbeats 0
namespace L3
namespace K18
open PySem PySem.Spec L2
open PyProof.Rows (b2i)
theorem sRow : (D.str "row").shp = true := by decide +kernel
theorem sCol : (D.str "col").shp = true := by decide +kernel
def sD (s : Nat × Nat) : D := .tup [.int (s.1 : Nat), .int (s.2 : Nat)]
theorem sum_take {ss : List (Nat × Nat)} {i : Nat} {s : Nat × Nat} (h : ss[i]? = some s) : sumW (ss.take (i + 1)) = sumW (ss.take i) + s.1 ∧ sumH (ss.take (i + 1)) = sumH (ss.take i) + s.2 ∧ maxW (ss.take (i + 1)) = max (maxW (ss.take i)) s.1 ∧ maxH (ss.take (i + 1)) = max (maxH (ss.take i)) s.2 := by
  induction ss generalizing i with
  | nil => simp at h
  | cons a r ih =>
    cases i with
    | zero => simp at h; subst h; simp [sumW, sumH, maxW, maxH]
    | succ i =>
      simp at h
      obtain ⟨h1, h2, h3, h4⟩ := ih h
      rw [List.take_succ_cons, List.take_succ_cons]
      simp only [sumW, sumH, maxW, maxH]
      omega
def sp_measure (A : Ad) : S3 := fun ds QR _ => ∃ (l : Str) (ss : List (Nat × Nat)), ds = [.str l, .tup (ss.map sD)] ∧ gd 20 l ∧ QR (sD (meas l ss)) ds
def b_measure_c1t1 (A : Ad) : T3S := (sRet (eTup (aCons (eCB cLen (aCons (eVar 0) aNil)) (aCons (eC (.int 1)) aNil))))
def b_measure_l1c3t1 (A : Ad) : T3S := (sIf (fTst (eOp oGt (eVar 5) (eVar 3)))
 (sAsg (eVar 5) (gN 3))
 sNext)
def b_measure_l1e3t1 (A : Ad) : T3S := (sIf (fTst (eOp oGt (eVar 4) (eVar 2)))
 (sAsg (eVar 4) (gN 2))
 sNext)
def b_measure_l1 (A : Ad) : T3S := (sIf (fTst (eOp (oEq false) (eVar 0) (eC (.str "row"))))
 (sSeq (sAsg (eOp oAdd (eVar 2) (eVar 4)) (gN 2))
 (b_measure_l1c3t1 A))
 (sSeq (sAsg (eOp oAdd (eVar 3) (eVar 5)) (gN 3))
 (b_measure_l1e3t1 A)))
def b_measure_t4 (A : Ad) : T3S := (sRet (eTup (aCons (eVar 2) (aCons (eVar 3) aNil))))
def b_measure_t3 (A : Ad) : T3S := (sSeq (sFor (iS (eVar 1)) (gT 2 (fun xs ρ Q => match xs with | x :: r => (gN 4) x ρ fun ρ1 => (fun xs ρ Q => match xs with | x :: r => (gN 5) x ρ fun ρ1 => (fun xs ρ Q => xs = [] ∧ Q ρ) r ρ1 Q | [] => False) r ρ1 Q | [] => False))
 (b_measure_l1 A))
 (b_measure_t4 A))
def b_measure_t2 (A : Ad) : T3S := (sSeq (sAsg (eC (.int 0)) (gN 3))
 (b_measure_t3 A))
def b_measure_t1 (A : Ad) : T3S := (sSeq (sAsg (eC (.int 0)) (gN 2))
 (b_measure_t2 A))
def b_measure (A : Ad) : T3S := (sSeq (sIf (fNot (fTru (eVar 1)))
 (sSeq (sIf (fOr (fTst (eOp (oEq false) (eVar 0) (eC (.str "row")))) (fTst (eOp (oEq false) (eVar 0) (eC (.str "col")))))
 (sRet (eTup (aCons (eC (.int 0)) (aCons (eC (.int 0)) aNil))))
 sNext)
 (b_measure_c1t1 A))
 sNext)
 (b_measure_t1 A))
theorem t_measure (A : Ad) : ∀ ds QR QO, sp_measure A ds QR QO → ds.length = 2 → b_measure A (endE [.shr, .shr] ds QR QO) (startE 4 [.shr, .shr] ds) := by
  rintro ds QR QO ⟨l, ss, rfl, hl, h⟩ _
  cases ss with
  | nil =>
    have leaf : isRC l = false → b_measure_c1t1 A (endE [.shr, .shr] [.str l, .tup []] QR QO) [.shr (.str l), .shr (.tup []), .emp, .emp, .emp, .emp] := by
      intro hc
      have e : meas l [] = (l.length, 1) := by simp [meas, hc]
      rw [e] at h
      exact ⟨gd_sl hl (by decide), sz _ rfl, h⟩
    have zero : isRC l = true → QR (.tup [.int 0, .int 0]) [.str l, .tup []] := by
      intro hc
      have e : meas l [] = (0, 0) := by simp [meas, hc]
      rw [e] at h
      exact h
    refine ⟨hl.shp, sRow, ifs (fun z => ?_) fun z => ?_⟩
    · exact ⟨sz _ rfl, zero (by unfold isRC isRow; rw [show D.eqv (.str l) (.str "row") = true from z]; rfl)⟩
    · have z : isRow l = false := by cases h : isRow l with
        | false => rfl
        | true => exact absurd h z
      refine ⟨hl.shp, sCol, ifs (fun z2 => ?_) fun z2 => ?_⟩
      · exact ⟨sz _ rfl, zero (by unfold isRC; rw [show D.eqv (.str l) (.str "col") = true from z2, Bool.or_true])⟩
      · refine leaf ?_
        unfold isRC
        rw [z]
        cases h : D.eqv (.str l) (.str "col") with
        | false => rfl
        | true => exact absurd h z2
  | cons s ss =>
    have hne : (s :: ss).isEmpty = false := rfl
    generalize s :: ss = ss at *
    refine ife ?_ ?_
    · cases ss with
      | nil => cases hne
      | cons a r => simp
    show b_measure_t1 A _ [.shr (.str l), .shr (.tup (ss.map sD)), .emp, .emp, .emp, .emp]
    refine ⟨rfl, rfl, ?_⟩
    show b_measure_t3 A _ [.shr (.str l), .shr (.tup (ss.map sD)), .shr (.int 0), .shr (.int 0), .emp, .emp]
    let W : Nat → Nat := fun i => if isRow l = true then sumW (ss.take i) else maxW (ss.take i)
    let Hh : Nat → Nat := fun i => if isRow l = true then maxH (ss.take i) else sumH (ss.take i)
    refine for_inv (fun i ρ => ∃ s4 s5 : Sl, s4.locked = false ∧ s5.locked = false ∧ ρ = [.shr (.str l), .shr (.tup (ss.map sD)), .shr (.int (W i : Nat)), .shr (.int (Hh i : Nat)), s4, s5]) _ ?_ ?_ ⟨.emp, .emp, rfl, rfl, ?_⟩
    · rintro i d ρ N hd ⟨s4, s5, u4, u5, rfl⟩ hN
      rw [List.getElem?_map] at hd
      obtain ⟨s, hs, rfl⟩ := Option.map_eq_some_iff.mp hd
      obtain ⟨e1, e2, e3, e4⟩ := sum_take hs
      refine ⟨rfl, unF u4, unF u5, rfl, ?_⟩
      show b_measure_l1 A _ [.shr (.str l), .shr (.tup (ss.map sD)), .shr (.int (W i : Nat)), .shr (.int (Hh i : Nat)), .shr (.int (s.1 : Nat)), .shr (.int (s.2 : Nat))]
      refine ⟨hl.shp, sRow, ifs (fun z => ?_) fun z => ?_⟩
      · have z : isRow l = true := z
        have eW : W (i + 1) = W i + s.1 := by simp only [W, z, if_true]; exact e1
        have eH : Hh (i + 1) = max (Hh i) s.2 := by simp only [Hh, z, if_true]; exact e4
        refine ⟨rfl, ifs (fun z2 => ?_) fun z2 => ?_⟩
        · have z2 : ((Hh i : Nat) : Int) < (s.2 : Nat) := of_decide_eq_true z2
          refine ⟨rfl, hN _ ⟨.shr (.int (s.1 : Nat)), .shr (.int (s.2 : Nat)), rfl, rfl, ?_⟩⟩
          rw [eW, eH, show max (Hh i) s.2 = s.2 by omega]; rfl
        · have z2 : ¬ ((Hh i : Nat) : Int) < (s.2 : Nat) := fun q => z2 (decide_eq_true q)
          refine hN _ ⟨.shr (.int (s.1 : Nat)), .shr (.int (s.2 : Nat)), rfl, rfl, ?_⟩
          rw [eW, eH, show max (Hh i) s.2 = Hh i by omega]; rfl
      · have z : isRow l = false := by cases h : isRow l with
          | false => rfl
          | true => exact absurd h z
        have eW : W (i + 1) = max (W i) s.1 := by simp only [W, z, Bool.false_eq_true, if_false]; exact e3
        have eH : Hh (i + 1) = Hh i + s.2 := by simp only [Hh, z, Bool.false_eq_true, if_false]; exact e2
        refine ⟨rfl, ifs (fun z2 => ?_) fun z2 => ?_⟩
        · have z2 : ((W i : Nat) : Int) < (s.1 : Nat) := of_decide_eq_true z2
          refine ⟨rfl, hN _ ⟨.shr (.int (s.1 : Nat)), .shr (.int (s.2 : Nat)), rfl, rfl, ?_⟩⟩
          rw [eW, eH, show max (W i) s.1 = s.1 by omega]; rfl
        · have z2 : ¬ ((W i : Nat) : Int) < (s.1 : Nat) := fun q => z2 (decide_eq_true q)
          refine hN _ ⟨.shr (.int (s.1 : Nat)), .shr (.int (s.2 : Nat)), rfl, rfl, ?_⟩
          rw [eW, eH, show max (W i) s.1 = W i by omega]; rfl
    · rintro ρ ⟨s4, s5, u4, u5, rfl⟩
      refine ⟨trivial, sz _ rfl, ?_⟩
      have e : (W (ss.map sD).length, Hh (ss.map sD).length) = meas l ss := by
        simp only [W, Hh, List.length_map, List.take_length, meas, hne, Bool.false_eq_true, if_false]
        cases isRow l <;> simp
      show QR (sD (W (ss.map sD).length, Hh (ss.map sD).length)) _
      rw [e]; exact h
    · have e1 : W 0 = 0 := by simp only [W, List.take_zero, sumW, maxW, ite_self]
      have e2 : Hh 0 = 0 := by simp only [Hh, List.take_zero, sumH, maxH, ite_self]
      rw [e1, e2]; rfl
mutual
def T.post : T → List T
  | .nd m l ks => T.posts ks ++ [.nd m l ks]
def T.posts : List T → List T
  | [] => []
  | t :: ts => t.post ++ T.posts ts
end
theorem T.post_eq (t : T) : t.post = T.posts t.ks ++ [t] := by cases t; simp [T.post, T.ks]
theorem T.pre_eq (t : T) : t.pre = t :: T.pres t.ks := by cases t; simp [T.pre, T.ks]
theorem posts_app (ts us : List T) : T.posts (ts ++ us) = T.posts ts ++ T.posts us := by
  induction ts with
  | nil => simp [T.posts]
  | cons t ts ih => simp [T.posts, ih]
mutual
theorem T.post_len : ∀ t : T, t.post.length = t.pre.length
  | .nd m l ks => by simp [T.post, T.pre, T.posts_len ks]
theorem T.posts_len : ∀ ts : List T, (T.posts ts).length = (T.pres ts).length
  | [] => by simp [T.posts, T.pres]
  | t :: ts => by simp [T.posts, T.pres, T.post_len t, T.posts_len ts]
end
theorem d_ks (t : T) : L2.atI [D.str t.m, D.str t.l, D.tup (t.ks.map T.d)] 2 = some (.tup (t.ks.map T.d)) := rfl
theorem snoc_last {α : Type} (l : List α) (x : α) : (l ++ [x])[(l ++ [x]).length - 1]? = some x := by
  rw [List.length_append, List.length_singleton, Nat.add_sub_cancel, List.getElem?_append_right (Nat.le_refl _), Nat.sub_self]; rfl
def sp_from_below (A : Ad) : S3 := fun ds QR _ => ∃ t : T, ds = [t.d] ∧ t.pre.length ≤ 100 ∧ QR (.lst (t.post.map T.d)) ds
def b_from_below_l1t2 (A : Ad) : T3S := (sDrop (eBM "list" mExtendT (eVar 2) (aCons (eOp oIdx (eVar 3) (eC (.int 2))) aNil)))
def b_from_below_l1t1 (A : Ad) : T3S := (sSeq (sDrop (eBM "list" mAppend (eVar 1) (aCons (eVar 3) aNil)))
 (b_from_below_l1t2 A))
def b_from_below_l1 (A : Ad) : T3S := (sSeq (sAsg (eBM0 "list" mPop (eVar 2)) (gN 3))
 (b_from_below_l1t1 A))
def b_from_below_t3 (A : Ad) : T3S := (sRet (eShr (oRev (eVar 1))))
def b_from_below_t2 (A : Ad) : T3S := (sSeq (sWhile (fTru (eVar 2))
 (b_from_below_l1 A))
 (b_from_below_t3 A))
def b_from_below_t1 (A : Ad) : T3S := (sSeq (sAsgO (oLst (aCons (eVar 0) aNil)) 2)
 (b_from_below_t2 A))
def b_from_below (A : Ad) : T3S := (sSeq (sAsgO (oLst aNil) 1)
 (b_from_below_t1 A))
theorem t_from_below (A : Ad) : ∀ ds QR QO, sp_from_below A ds QR QO → ds.length = 1 → b_from_below A (endE [.shr] ds QR QO) (startE 3 [.shr] ds) := by
  rintro ds QR QO ⟨t, rfl, hl, h⟩ _
  refine ⟨sz _ rfl, rfl, sz _ rfl, rfl, ?_⟩
  show b_from_below_t2 A _ [.shr t.d, .own (.lst []), .own (.lst [t.d]), .emp]
  refine ⟨fun m ρ => ∃ (rows ws : List T) (s3 : Sl), s3.locked = false ∧ rows ++ (T.posts ws).reverse = t.post.reverse ∧ (T.posts ws).length = m ∧ ρ = [.shr t.d, .own (.lst (rows.map T.d)), .own (.lst (ws.map T.d)), s3], ⟨t.post.length, [], [t], .emp, rfl, by simp [T.posts], by simp [T.posts], rfl⟩, ?_⟩
  rintro m ρ ⟨rows, ws, s3, u3, h1, rfl, rfl⟩
  have hlen := congrArg List.length h1
  rw [List.length_append, List.length_reverse, List.length_reverse, T.post_len] at hlen
  rcases List.eq_nil_or_concat ws with rfl | ⟨ws', n, rfl⟩
  · simp only [T.posts, List.reverse_nil, List.append_nil] at h1
    have e : t.post = rows.reverse := by rw [h1, List.reverse_reverse]
    rw [e, List.map_reverse] at h
    exact h
  · rw [List.concat_eq_append] at *
    rw [List.map_append]
    refine ift (by simp) ?_
    refine ⟨rfl, wo_in (snoc_last (ws'.map T.d) n.d) ⟨unF u3, ?_⟩⟩
    show b_from_below_l1t1 A _ [.shr t.d, .own (.lst (rows.map T.d)), .own (.lst (ws'.map T.d ++ [n.d]).dropLast), .shr n.d]
    rw [List.dropLast_concat]
    have hp : T.posts (ws' ++ [n]) = T.posts ws' ++ T.posts n.ks ++ [n] := by rw [posts_app]; simp [T.posts, T.post_eq n]
    have hp2 : (T.posts (ws' ++ n.ks)).length + 1 = (T.posts (ws' ++ [n])).length := by rw [hp, posts_app]; simp; omega
    have hw : ∀ ts : List T, ts.length ≤ (T.posts ts).length := by
      intro ts
      induction ts with
      | nil => simp
      | cons a ts ih => simp only [T.posts, T.post_eq a, List.length_append, List.length_cons, List.length_nil]; omega
    have hw2 := hw (ws' ++ n.ks)
    rw [List.length_append] at hw2
    refine ⟨rfl, by rw [List.length_map, sizeLine_eq]; omega, ?_⟩
    show b_from_below_l1t2 A _ [.shr t.d, .own (.lst (rows.map T.d ++ [n.d])), .own (.lst (ws'.map T.d)), .shr n.d]
    rw [T.d_eq n]
    refine ⟨rfl, by rw [List.length_map, List.length_map, sizeLine_eq]; omega, (T.posts (ws' ++ n.ks)).length, by omega, rows ++ [n], ws' ++ n.ks, .shr n.d, rfl, ?_, rfl, ?_⟩
    · rw [← h1, hp, posts_app]; simp
    · rw [List.map_append, List.map_append, T.d_eq n]; simp [T.d_eq n]
def sp_nodes_of (A : Ad) : S3 := fun ds QR _ => ∃ t : T, ds = [t.d] ∧ t.pre.length ≤ 100 ∧ QR (.lst (t.pre.map T.d)) ds
def b_nodes_of_l1t2 (A : Ad) : T3S := (sDrop (eBM "list" mExtendT (eVar 2) (aCons (eRevT (eOp oIdx (eVar 3) (eC (.int 2)))) aNil)))
def b_nodes_of_l1t1 (A : Ad) : T3S := (sSeq (sDrop (eBM "list" mAppend (eVar 1) (aCons (eVar 3) aNil)))
 (b_nodes_of_l1t2 A))
def b_nodes_of_l1 (A : Ad) : T3S := (sSeq (sAsg (eBM0 "list" mPop (eVar 2)) (gN 3))
 (b_nodes_of_l1t1 A))
def b_nodes_of_t3 (A : Ad) : T3S := (sFrz 1 (sRet (eVar 1)))
def b_nodes_of_t2 (A : Ad) : T3S := (sSeq (sWhile (fTru (eVar 2))
 (b_nodes_of_l1 A))
 (b_nodes_of_t3 A))
def b_nodes_of_t1 (A : Ad) : T3S := (sSeq (sAsgO (oLst (aCons (eVar 0) aNil)) 2)
 (b_nodes_of_t2 A))
def b_nodes_of (A : Ad) : T3S := (sSeq (sAsgO (oLst aNil) 1)
 (b_nodes_of_t1 A))
theorem pres_ge : ∀ ts : List T, ts.length ≤ (T.pres ts).length
  | [] => by simp
  | a :: ts => by
    have := pres_ge ts
    simp only [T.pres, T.pre_eq a, List.length_append, List.length_cons]; omega
theorem t_nodes_of (A : Ad) : ∀ ds QR QO, sp_nodes_of A ds QR QO → ds.length = 1 → b_nodes_of A (endE [.shr] ds QR QO) (startE 3 [.shr] ds) := by
  rintro ds QR QO ⟨t, rfl, hl, h⟩ _
  refine ⟨sz _ rfl, rfl, sz _ rfl, rfl, ?_⟩
  show b_nodes_of_t2 A _ [.shr t.d, .own (.lst []), .own (.lst [t.d]), .emp]
  refine ⟨fun m ρ => ∃ (rows ws : List T) (s3 : Sl), s3.locked = false ∧ rows ++ T.pres ws.reverse = t.pre ∧ (T.pres ws.reverse).length = m ∧ ρ = [.shr t.d, .own (.lst (rows.map T.d)), .own (.lst (ws.map T.d)), s3], ⟨t.pre.length, [], [t], .emp, rfl, by simp [T.pres], by simp [T.pres], rfl⟩, ?_⟩
  rintro m ρ ⟨rows, ws, s3, u3, h1, rfl, rfl⟩
  have hlen := congrArg List.length h1
  rw [List.length_append] at hlen
  rcases List.eq_nil_or_concat ws with rfl | ⟨ws', n, rfl⟩
  · simp only [T.pres, List.reverse_nil, List.append_nil] at h1
    rw [← h1] at h
    exact h
  · rw [List.concat_eq_append] at *
    rw [List.map_append]
    refine ift (by simp) ?_
    refine ⟨rfl, wo_in (snoc_last (ws'.map T.d) n.d) ⟨unF u3, ?_⟩⟩
    show b_nodes_of_l1t1 A _ [.shr t.d, .own (.lst (rows.map T.d)), .own (.lst (ws'.map T.d ++ [n.d]).dropLast), .shr n.d]
    rw [List.dropLast_concat]
    have hp : T.pres (ws' ++ [n]).reverse = n :: (T.pres (ws' ++ n.ks.reverse).reverse) := by
      rw [List.reverse_append, List.reverse_append, List.reverse_reverse, pres_app, pres_app]; simp [T.pres, T.pre_eq n]
    have hp2 := congrArg List.length hp
    rw [List.length_cons] at hp2
    have hw2 := pres_ge (ws' ++ n.ks.reverse).reverse
    rw [List.length_reverse, List.length_append, List.length_reverse] at hw2
    refine ⟨rfl, by rw [List.length_map, sizeLine_eq]; omega, ?_⟩
    show b_nodes_of_l1t2 A _ [.shr t.d, .own (.lst (rows.map T.d ++ [n.d])), .own (.lst (ws'.map T.d)), .shr n.d]
    rw [T.d_eq n]
    refine ⟨rfl, by rw [List.length_map, List.length_reverse, List.length_map, sizeLine_eq]; omega, (T.pres (ws' ++ n.ks.reverse).reverse).length, by omega, rows ++ [n], ws' ++ n.ks.reverse, .shr n.d, rfl, ?_, rfl, ?_⟩
    · rw [← h1, hp]; simp
    · rw [List.map_append, List.map_append, List.map_reverse, T.d_eq n]; simp [T.d_eq n]

end K18
end L3

set_option Elab.async false
set_option linter.all false
set_option maxRecDepth 100000
set_option autoImplicit false
set_option maxHeartbeats 0
namespace L3
namespace K18
open PySem PySem.Spec L2
open PyProof.Rows (b2i)
abbrev At := T × Nat × Nat
def kat (r : Bool) : List T → Nat → Nat → List At
  | [], _, _ => []
  | t :: ts, x, y => (t, x, y) :: kat r ts (if r then x + t.sz.1 else x) (if r then y else y + t.sz.2)
def bxa (c : At) : List (Str × Bx) := c.1.bx c.2.1 c.2.2
theorem bxs_kat (r : Bool) : ∀ (ts : List T) (x y : Nat), T.bxs r ts x y = (kat r ts x y).flatMap bxa
  | [], x, y => by simp [T.bxs, kat]
  | t :: ts, x, y => by simp [T.bxs, kat, bxa, bxs_kat r ts]
theorem kat_fst (r : Bool) : ∀ (ts : List T) (x y : Nat), (kat r ts x y).map (·.1) = ts
  | [], x, y => rfl
  | t :: ts, x, y => by simp [kat, kat_fst r ts]
theorem T.bx_eq (t : T) (x y : Nat) : t.bx x y = (t.m, ⟨x, y, t.sz.1, t.sz.2⟩) :: (kat (isRow t.l) t.ks x y).flatMap bxa := by
  rw [← bxs_kat]; cases t; simp [T.bx, T.m, T.l, T.ks]
mutual
theorem T.bx_keys : ∀ (t : T) (x y : Nat), (t.bx x y).map (·.1) = t.pre.map T.m
  | .nd m l ks, x, y => by simp [T.bx, T.pre, T.m, T.bxs_keys (isRow l) ks x y]
theorem T.bxs_keys (r : Bool) : ∀ (ts : List T) (x y : Nat), (T.bxs r ts x y).map (·.1) = (T.pres ts).map T.m
  | [], x, y => by simp [T.bxs, T.pres]
  | t :: ts, x, y => by simp [T.bxs, T.pres, T.bx_keys t, T.bxs_keys r ts]
end
def bD (b : Bx) : D := .tup [.int (b.x : Nat), .int (b.y : Nat), .int (b.w : Nat), .int (b.h : Nat)]
def bxD (L : List (Str × Bx)) : List (Key × D) := L.map fun b => (.inr b.1, bD b.2)
def wD (c : At) : D := .tup [c.1.d, .int (c.2.1 : Nat), .int (c.2.2 : Nat)]
theorem putD_new {kvs : List (Key × D)} {k : Key} {d : D} (h : ∀ p ∈ kvs, p.1 ≠ k) : putD kvs k d = kvs ++ [(k, d)] := by
  unfold putD
  rw [if_neg]
  intro e
  obtain ⟨p, hp, e⟩ := List.any_eq_true.mp e
  exact h p hp (of_decide_eq_true e)
theorem atI_k {ds : List D} {d : D} (k : Nat) (h : ds[k]? = some d) : L2.atI ds (k : Int) = some d := atI_nat h
theorem wD_0 (c : At) : wD c = .tup [.tup [.str c.1.m, .str c.1.l, .tup (c.1.ks.map T.d)], .int (c.2.1 : Nat), .int (c.2.2 : Nat)] := by unfold wD; rw [T.d_eq]
theorem mem_pres : ∀ {ts : List T} {c : T}, c ∈ ts → ∀ q ∈ c.pre, q ∈ T.pres ts
  | t :: ts, c, h, q, hq => by
    simp only [T.pres]
    rcases List.mem_cons.mp h with rfl | h
    · exact List.mem_append_left _ hq
    · exact List.mem_append_right _ (mem_pres h q hq)
theorem self_pre (t : T) : t ∈ t.pre := by rw [T.pre_eq]; exact List.mem_cons_self ..
theorem kid_pre {c n : T} (h : c ∈ n.ks) : ∀ q ∈ c.pre, q ∈ n.pre := fun q hq => by rw [T.pre_eq n]; exact List.mem_cons_of_mem _ (mem_pres h q hq)
theorem kat_len (r : Bool) (ts : List T) (x y : Nat) : ((kat r ts x y).flatMap bxa).length = (T.pres ts).length := by
  have := congrArg List.length (T.bxs_keys r ts x y)
  rw [List.length_map, List.length_map] at this
  rw [← bxs_kat]; exact this
def sp_rectangles (A : Ad) : S3 := fun ds QR _ => ∃ (t : T) (kvs : List (Key × D)), ds = [t.d, .dic kvs] ∧ (∀ n ∈ t.pre, getD' kvs (.inr n.m) = some (sD n.sz) ∧ gd 20 n.l) ∧ (t.pre.map T.m).Nodup ∧ t.pre.length ≤ 100 ∧ QR (.dic (bxD (t.bx 0 0))) ds
def b_rectangles_l1l2t1 (A : Ad) : T3S := (sIf (fTst (eOp (oEq false) (eOp oIdx (eVar 4) (eC (.int 1))) (eC (.str "row"))))
 (sAsg (eOp oAdd (eVar 5) (eOp oIdx (eDGet (eVar 1) (eOp oIdx (eVar 10) (eC (.int 0)))) (eC (.int 0)))) (gN 5))
 (sAsg (eOp oAdd (eVar 6) (eOp oIdx (eDGet (eVar 1) (eOp oIdx (eVar 10) (eC (.int 0)))) (eC (.int 1)))) (gN 6)))
def b_rectangles_l1l2 (A : Ad) : T3S := (sSeq (sDrop (eBM "list" mAppend (eVar 9) (aCons (eTup (aCons (eVar 10) (aCons (eVar 5) (aCons (eVar 6) aNil)))) aNil)))
 (b_rectangles_l1l2t1 A))
def b_rectangles_l1t5 (A : Ad) : T3S := (sDrop (eBM "list" mExtend (eVar 3) (aCons (eShr (oRev (eVar 9))) aNil)))
def b_rectangles_l1t4 (A : Ad) : T3S := (sSeq (sFor (iS (eOp oIdx (eVar 4) (eC (.int 2)))) (gN 10)
 (b_rectangles_l1l2 A))
 (b_rectangles_l1t5 A))
def b_rectangles_l1t3 (A : Ad) : T3S := (sSeq (sAsgO (oLst aNil) 9)
 (b_rectangles_l1t4 A))
def b_rectangles_l1t2 (A : Ad) : T3S := (sSeq (sDPutD (eTup (aCons (eVar 5) (aCons (eVar 6) (aCons (eVar 7) (aCons (eVar 8) aNil))))) (eVar 2) (eOp oIdx (eVar 4) (eC (.int 0))))
 (b_rectangles_l1t3 A))
def b_rectangles_l1t1 (A : Ad) : T3S := (sSeq (sAsg (eDGet (eVar 1) (eOp oIdx (eVar 4) (eC (.int 0)))) (gT 2 (fun xs ρ Q => match xs with | x :: r => (gN 7) x ρ fun ρ1 => (fun xs ρ Q => match xs with | x :: r => (gN 8) x ρ fun ρ1 => (fun xs ρ Q => xs = [] ∧ Q ρ) r ρ1 Q | [] => False) r ρ1 Q | [] => False)))
 (b_rectangles_l1t2 A))
def b_rectangles_l1 (A : Ad) : T3S := (sSeq (sAsg (eBM0 "list" mPop (eVar 3)) (gT 3 (fun xs ρ Q => match xs with | x :: r => (gN 4) x ρ fun ρ1 => (fun xs ρ Q => match xs with | x :: r => (gN 5) x ρ fun ρ1 => (fun xs ρ Q => match xs with | x :: r => (gN 6) x ρ fun ρ1 => (fun xs ρ Q => xs = [] ∧ Q ρ) r ρ1 Q | [] => False) r ρ1 Q | [] => False) r ρ1 Q | [] => False)))
 (b_rectangles_l1t1 A))
def b_rectangles_t3 (A : Ad) : T3S := (sFrz 2 (sRet (eVar 2)))
def b_rectangles_t2 (A : Ad) : T3S := (sSeq (sWhile (fTru (eVar 3))
 (b_rectangles_l1 A))
 (b_rectangles_t3 A))
def b_rectangles_t1 (A : Ad) : T3S := (sSeq (sAsgO (oLst (aCons (eTup (aCons (eVar 0) (aCons (eC (.int 0)) (aCons (eC (.int 0)) aNil)))) aNil)) 3)
 (b_rectangles_t2 A))
def b_rectangles (A : Ad) : T3S := (sSeq (sAsgO oDicE 2)
 (b_rectangles_t1 A))
theorem t_rectangles (A : Ad) : ∀ ds QR QO, sp_rectangles A ds QR QO → ds.length = 2 → b_rectangles A (endE [.shr, .shr] ds QR QO) (startE 9 [.shr, .shr] ds) := by
  rintro ds QR QO ⟨t, kvs, rfl, hs, hnd, hl, h⟩ _
  refine ⟨rfl, sz _ rfl, sz _ rfl, rfl, ?_⟩
  show b_rectangles_t2 A _ [.shr t.d, .shr (.dic kvs), .own (.dic []), .own (.lst [wD (t, 0, 0)]), .emp, .emp, .emp, .emp, .emp, .emp, .emp]
  have hbl : (t.bx 0 0).length = t.pre.length := by
    have := congrArg List.length (T.bx_keys t 0 0)
    rwa [List.length_map, List.length_map] at this
  refine ⟨fun m ρ => ∃ (L : List (Str × Bx)) (ws : List At) (s4 s5 s6 s7 s8 s9 s10 : Sl), s4.locked = false ∧ s5.locked = false ∧ s6.locked = false ∧ s7.locked = false ∧ s8.locked = false ∧ s9.locked = false ∧ s10.locked = false ∧
    L ++ ws.reverse.flatMap bxa = t.bx 0 0 ∧ (∀ c ∈ ws, ∀ n ∈ c.1.pre, n ∈ t.pre) ∧ (ws.reverse.flatMap bxa).length = m ∧ ρ = [.shr t.d, .shr (.dic kvs), .own (.dic (bxD L)), .own (.lst (ws.map wD)), s4, s5, s6, s7, s8, s9, s10], ⟨(t.bx 0 0).length, [], [(t, 0, 0)], .emp, .emp, .emp, .emp, .emp, .emp, .emp, rfl, rfl, rfl, rfl, rfl, rfl, rfl, by simp [bxa], by simp, by simp [bxa], rfl⟩, ?_⟩
  rintro m ρ ⟨L, ws, s4, s5, s6, s7, s8, s9, s10, u4, u5, u6, u7, u8, u9, u10, h1, hw, rfl, rfl⟩
  have hlen := congrArg List.length h1
  rw [List.length_append, hbl] at hlen
  rcases List.eq_nil_or_concat ws with rfl | ⟨ws', c, rfl⟩
  · have e : L = t.bx 0 0 := by rw [← h1]; simp
    subst e
    exact h
  · rw [List.concat_eq_append] at *
    rw [List.map_append]
    refine ift (by simp) ?_
    obtain ⟨n, x, y⟩ := c
    have hn : n ∈ t.pre := hw (n, x, y) (by simp) n (by rw [T.pre_eq]; exact List.mem_cons_self ..)
    have hsn := hs n hn
    refine ⟨rfl, wo_in (snoc_last (ws'.map wD) (wD (n, x, y))) ⟨rfl, unF u4, unF u5, unF u6, rfl, ?_⟩⟩
    show b_rectangles_l1t1 A _ [.shr t.d, .shr (.dic kvs), .own (.dic (bxD L)), .own (.lst (ws'.map wD ++ [wD (n, x, y)]).dropLast), .shr n.d, .shr (.int (x : Nat)), .shr (.int (y : Nat)), s7, s8, s9, s10]
    rw [List.dropLast_concat, T.d_eq n]
    refine wo_in hsn.1 ⟨rfl, unF u7, unF u8, rfl, ?_⟩
    let nD : D := .tup [.str n.m, .str n.l, .tup (n.ks.map T.d)]
    show b_rectangles_l1t2 A _ [.shr t.d, .shr (.dic kvs), .own (.dic (bxD L)), .own (.lst (ws'.map wD)), .shr nD, .shr (.int (x : Nat)), .shr (.int (y : Nat)), .shr (.int (n.sz.1 : Nat)), .shr (.int (n.sz.2 : Nat)), s9, s10]
    have hbx := T.bx_eq n x y
    have h2 : L ++ ((n.m, ⟨x, y, n.sz.1, n.sz.2⟩) :: ((kat (isRow n.l) n.ks x y).flatMap bxa ++ ws'.reverse.flatMap bxa)) = t.bx 0 0 := by
      rw [← h1, List.reverse_append]
      simp [bxa, hbx]
    have hkeys : ∀ p ∈ bxD L, p.1 ≠ .inr n.m := by
      intro p hp e
      obtain ⟨b, hb, rfl⟩ := List.mem_map.mp hp
      have hb1 : b.1 = n.m := Sum.inr.inj e
      have hnd2 : ((t.bx 0 0).map (·.1)).Nodup := by rw [T.bx_keys]; exact hnd
      rw [← h2, List.map_append, List.map_cons] at hnd2
      have := (List.nodup_append.mp hnd2).2.2 b.1 (List.mem_map_of_mem hb) n.m (List.mem_cons_self ..)
      exact this hb1
    have hL : L.length + (1 + ((kat (isRow n.l) n.ks x y).flatMap bxa).length + (ws'.reverse.flatMap bxa).length) = t.pre.length := by
      have := congrArg List.length h2
      rw [hbl] at this
      simp only [List.length_append, List.length_cons] at this
      omega
    refine ⟨sz _ rfl, by unfold bxD; rw [List.length_map, sizeLine_eq]; omega, ?_⟩
    show b_rectangles_l1t3 A _ [.shr t.d, .shr (.dic kvs), .own (.dic (putD (bxD L) (.inr n.m) (bD ⟨x, y, n.sz.1, n.sz.2⟩))), .own (.lst (ws'.map wD)), .shr nD, .shr (.int (x : Nat)), .shr (.int (y : Nat)), .shr (.int (n.sz.1 : Nat)), .shr (.int (n.sz.2 : Nat)), s9, s10]
    rw [putD_new hkeys]
    have eL : bxD L ++ [(.inr n.m, bD ⟨x, y, n.sz.1, n.sz.2⟩)] = bxD (L ++ [(n.m, ⟨x, y, n.sz.1, n.sz.2⟩)]) := by simp [bxD]
    rw [eL]
    generalize hL2 : L ++ [(n.m, (⟨x, y, n.sz.1, n.sz.2⟩ : Bx))] = L2
    refine ⟨sz _ rfl, unF u9, ?_⟩
    show forL (gN 10) (b_rectangles_l1l2 A) _ (n.ks.map T.d) [.shr t.d, .shr (.dic kvs), .own (.dic (bxD L2)), .own (.lst (ws'.map wD)), .shr nD, .shr (.int (x : Nat)), .shr (.int (y : Nat)), .shr (.int (n.sz.1 : Nat)), .shr (.int (n.sz.2 : Nat)), .own (.lst []), s10]
    refine for_inv (fun i ρ => ∃ (bs : List At) (x' y' : Nat) (s10 : Sl), s10.locked = false ∧ kat (isRow n.l) n.ks x y = bs ++ kat (isRow n.l) (n.ks.drop i) x' y' ∧ bs.length ≤ i ∧ ρ = [.shr t.d, .shr (.dic kvs), .own (.dic (bxD L2)), .own (.lst (ws'.map wD)), .shr nD, .shr (.int (x' : Nat)), .shr (.int (y' : Nat)), .shr (.int (n.sz.1 : Nat)), .shr (.int (n.sz.2 : Nat)), .own (.lst (bs.map wD)), s10]) _ ?_ ?_ ⟨[], x, y, s10, u10, by simp, by simp, rfl⟩
    · rintro i d ρ N hd ⟨bs, x', y', s10, u10, hk, hbi, rfl⟩ hN
      rw [List.getElem?_map] at hd
      obtain ⟨c, hc, rfl⟩ := Option.map_eq_some_iff.mp hd
      have hil : i < n.ks.length := (List.getElem?_eq_some_iff.mp hc).1
      have hdr : n.ks.drop i = c :: n.ks.drop (i + 1) := by
        rw [List.drop_eq_getElem_cons hil]
        rw [List.getElem?_eq_getElem hil] at hc
        rw [Option.some.inj hc]
      have hcn : c ∈ t.pre := hw (n, x, y) (by simp) c (kid_pre (List.mem_of_getElem? hc) c (self_pre c))
      have hsc := hs c hcn
      have hkn := pres_ge n.ks
      rw [kat_len] at hL
      refine ⟨unF u10, ?_⟩
      show b_rectangles_l1l2 A _ [.shr t.d, .shr (.dic kvs), .own (.dic (bxD L2)), .own (.lst (ws'.map wD)), .shr nD, .shr (.int (x' : Nat)), .shr (.int (y' : Nat)), .shr (.int (n.sz.1 : Nat)), .shr (.int (n.sz.2 : Nat)), .own (.lst (bs.map wD)), .shr c.d]
      have hwc := wD_0 (c, x', y')
      rw [T.d_eq c]
      refine ⟨rfl, sz _ rfl, by rw [List.length_map, sizeLine_eq]; omega, hsn.2.shp, sRow, ifs (fun z => ?_) fun z => ?_⟩
      · have z : isRow n.l = true := z
        refine wo_in hsc.1 ⟨rfl, hN _ ⟨bs ++ [(c, x', y')], x' + c.sz.1, y', .shr (.tup [.str c.m, .str c.l, .tup (c.ks.map T.d)]), rfl, ?_, by rw [List.length_append, List.length_singleton]; omega, ?_⟩⟩
        · rw [hk, hdr, z]; simp [kat]
        · rw [List.map_append, List.map_cons, List.map_nil, hwc]; rfl
      · have z : isRow n.l = false := by cases h : isRow n.l with
          | false => rfl
          | true => exact absurd h z
        refine wo_in hsc.1 ⟨rfl, hN _ ⟨bs ++ [(c, x', y')], x', y' + c.sz.2, .shr (.tup [.str c.m, .str c.l, .tup (c.ks.map T.d)]), rfl, ?_, by rw [List.length_append, List.length_singleton]; omega, ?_⟩⟩
        · rw [hk, hdr, z]; simp [kat]
        · rw [List.map_append, List.map_cons, List.map_nil, hwc]; rfl
    · rintro ρ ⟨bs, x', y', s10, u10, hk, hbi, rfl⟩
      have hk : kat (isRow n.l) n.ks x y = bs := by
        rw [List.length_map, List.drop_length] at hk
        rw [hk]; simp [kat]
      refine ⟨trivial, ?_⟩
      have hwl : ∀ l : List At, l.length ≤ (l.flatMap bxa).length := by
        intro l
        induction l with
        | nil => simp
        | cons a l ih =>
          rw [List.flatMap_cons, List.length_append, List.length_cons]
          have : 0 < (bxa a).length := by unfold bxa; rw [T.bx_eq]; simp
          omega
      have hb1 := hwl bs
      have hb2 := hwl ws'.reverse
      rw [List.length_reverse] at hb2
      rw [hk] at hL h2
      refine ⟨rfl, by rw [List.length_map, List.length_reverse, List.length_map, sizeLine_eq]; omega, (((ws' ++ bs.reverse).reverse).flatMap bxa).length, ?_, L2, ws' ++ bs.reverse, .shr nD, .shr (.int (x' : Nat)), .shr (.int (y' : Nat)), .shr (.int (n.sz.1 : Nat)), .shr (.int (n.sz.2 : Nat)), .own (.lst (bs.map wD)), s10, rfl, rfl, rfl, rfl, rfl, rfl, u10, ?_, ?_, rfl, ?_⟩
      · have e1 : ((ws' ++ [(n, x, y)]).reverse.flatMap bxa).length = 1 + (bs.flatMap bxa).length + (ws'.reverse.flatMap bxa).length := by
          rw [List.reverse_append, List.flatMap_append, List.length_append]
          simp [bxa, hbx, hk]
          omega
        rw [e1, List.reverse_append, List.reverse_reverse, List.flatMap_append, List.length_append]
        omega
      · rw [← h2, ← hL2, List.reverse_append, List.reverse_reverse, List.flatMap_append]; simp
      · intro c hc q hq
        rcases List.mem_append.mp hc with hc | hc
        · exact hw c (List.mem_append_left _ hc) q hq
        · have hc := List.mem_reverse.mp hc
          have : c.1 ∈ n.ks := by
            rw [← kat_fst (isRow n.l) n.ks x y, hk]
            exact List.mem_map_of_mem hc
          exact hw (n, x, y) (by simp) q (kid_pre this q hq)
      · rw [List.map_append, List.map_reverse]; rfl

end K18
end L3

set_option Elab.async false
set_option linter.all false
set_option maxRecDepth 100000
set_option autoImplicit false
set_option maxHeartbeats 0
namespace L3
namespace K18
open PySem PySem.Spec L2
open PyProof.Rows (b2i)
theorem putD_len (kvs : List (Key × D)) (k : Key) (d : D) : (putD kvs k d).length ≤ kvs.length + 1 := by
  unfold putD
  split
  · rw [List.length_map]; omega
  · rw [List.length_append, List.length_singleton]; omega
theorem getD_none {kvs : List (Key × D)} {k : Key} (h : ∀ p ∈ kvs, p.1 ≠ k) : getD' kvs k = none := by
  unfold getD'
  rw [List.find?_eq_none.mpr fun p hp e => h p hp (of_decide_eq_true e)]; rfl
def pageD (A : Ad) (t : T) (x y z : D) : D := .obj A.Page [("tree", t.d), ("nodes", x), ("above", y), ("order", z)]
theorem pre_take_new {t : T} (hn : (t.pre.map T.m).Nodup) {i : Nat} {n : T} (h : t.pre[i]? = some n) : ∀ q ∈ t.pre.take i, q.m ≠ n.m := by
  intro q hq e
  have hi : i < t.pre.length := (List.getElem?_eq_some_iff.mp h).1
  rw [← List.take_append_drop i t.pre, List.map_append] at hn
  have hd : t.pre.drop i = n :: t.pre.drop (i + 1) := by
    rw [List.drop_eq_getElem_cons hi]
    rw [List.getElem?_eq_getElem hi] at h
    rw [Option.some.inj h]
  rw [hd] at hn
  exact (List.nodup_append.mp hn).2.2 q.m (List.mem_map_of_mem hq) n.m (List.mem_cons_self ..) e
def ndD (ns : List T) : List (Key × D) := ns.map fun n => (.inr n.m, n.d)
mutual
theorem pre_len_le : ∀ {t n : T}, n ∈ t.pre → n.pre.length ≤ t.pre.length
  | .nd m l ks, n, h => by
    rw [T.pre_eq] at h
    rcases List.mem_cons.mp h with rfl | h
    · exact Nat.le_refl _
    · have := pres_len_le (ts := ks) h
      rw [T.pre_eq (.nd m l ks), List.length_cons]
      show _ ≤ (T.pres ks).length + 1
      omega
theorem pres_len_le : ∀ {ts : List T} {n : T}, n ∈ T.pres ts → n.pre.length ≤ (T.pres ts).length
  | [], n, h => by simp [T.pres] at h
  | t :: ts, n, h => by
    simp only [T.pres] at h ⊢
    rw [List.length_append]
    rcases List.mem_append.mp h with h | h
    · have := pre_len_le (t := t) h; omega
    · have := pres_len_le (ts := ts) h; omega
end
def sp_Page___init__ (A : Ad) : S3 := fun ds QR _ => ∃ t : T, ds = [.obj A.Page [], t.d] ∧ t.good ∧ ∀ x y z, QR .non [pageD A t x y z, t.d]
def b_Page___init___l1l2 (A : Ad) : T3S := (sDPutD (eOp oIdx (eVar 5) (eC (.int 0))) (eVar 3) (eOp oIdx (eVar 6) (eC (.int 0))))
def b_Page___init___l1t3 (A : Ad) : T3S := (sFor (iS (eOp oIdx (eVar 5) (eC (.int 2)))) (gN 6)
 (b_Page___init___l1l2 A))
def b_Page___init___l1t2 (A : Ad) : T3S := (sSeq (sDrop (eBM "list" mAppend (eVar 4) (aCons (eOp oIdx (eVar 5) (eC (.int 0))) aNil)))
 (b_Page___init___l1t3 A))
def b_Page___init___l1t1 (A : Ad) : T3S := (sSeq (sDPutD (eVar 5) (eVar 2) (eOp oIdx (eVar 5) (eC (.int 0))))
 (b_Page___init___l1t2 A))
def b_Page___init___l1 (A : Ad) : T3S := (sSeq (sIf (fTst (fDIn false (eOp oIdx (eVar 5) (eC (.int 0))) (eVar 2)))
 sNever
 sNext)
 (b_Page___init___l1t1 A))
def b_Page___init___t8 (A : Ad) : T3S := (sFrz 4 (sFldP A.Page "order" (eVar 4) (eVar 0)))
def b_Page___init___t7 (A : Ad) : T3S := (sSeq (sFrz 3 (sFldP A.Page "above" (eVar 3) (eVar 0)))
 (b_Page___init___t8 A))
def b_Page___init___t6 (A : Ad) : T3S := (sSeq (sFrz 2 (sFldP A.Page "nodes" (eVar 2) (eVar 0)))
 (b_Page___init___t7 A))
def b_Page___init___t5 (A : Ad) : T3S := (sSeq (sFldP A.Page "tree" (eVar 1) (eVar 0))
 (b_Page___init___t6 A))
def b_Page___init___t4 (A : Ad) : T3S := (sSeq (sIf (fTst (eOp oGt (eCB cLen (aCons (eVar 4) aNil)) (eC (.int 400))))
 sNever
 sNext)
 (b_Page___init___t5 A))
def b_Page___init___t3 (A : Ad) : T3S := (sSeq (sFor (iS (eCall [.shr] (sp_nodes_of A) (aCons (eVar 1) aNil))) (gN 5)
 (b_Page___init___l1 A))
 (b_Page___init___t4 A))
def b_Page___init___t2 (A : Ad) : T3S := (sSeq (sAsgO (oLst aNil) 4)
 (b_Page___init___t3 A))
def b_Page___init___t1 (A : Ad) : T3S := (sSeq (sAsgO (oDispG (((eOp oIdx (eVar 1) (eC (.int 0))), (eC .non)) :: [])) 3)
 (b_Page___init___t2 A))
def b_Page___init__ (A : Ad) : T3S := (sSeq (sAsgO oDicE 2)
 (b_Page___init___t1 A))
theorem t_Page___init__ (A : Ad) : ∀ ds QR QO, sp_Page___init__ A ds QR QO → ds.length = 2 → b_Page___init__ A (endE [.par, .shr] ds QR QO) (startE 5 [.par, .shr] ds) := by
  rintro ds QR QO ⟨t, rfl, hg, h⟩ _
  have hl : t.pre.length ≤ 40 := hg.len
  refine ⟨rfl, ?_⟩
  show b_Page___init___t1 A _ [.par (.obj A.Page []), .shr t.d, .own (.dic []), .emp, .emp, .emp, .emp]
  have et := T.d_eq t
  have hat : ∀ (E : E3), b_Page___init___t2 A E [.par (.obj A.Page []), .shr t.d, .own (.dic []), .own (.dic [(.inr t.m, .non)]), .emp, .emp, .emp] → b_Page___init___t1 A E [.par (.obj A.Page []), .shr t.d, .own (.dic []), .emp, .emp, .emp, .emp] := by
    intro E q
    rw [et] at q ⊢
    exact ⟨by show 1 ≤ 15; decide, rfl, q⟩
  refine hat _ ?_
  refine ⟨sz _ rfl, rfl, ?_⟩
  show b_Page___init___t3 A _ [.par (.obj A.Page []), .shr t.d, .own (.dic []), .own (.dic [(.inr t.m, .non)]), .own (.lst []), .emp, .emp]
  refine ⟨rfl, t, rfl, by omega, ?_⟩
  refine for_inv (fun i ρ => ∃ (ab : List (Key × D)) (s5 s6 : Sl), s5.locked = false ∧ s6.locked = false ∧ ab.length ≤ 1 + i * 100 ∧ ρ = [.par (.obj A.Page []), .shr t.d, .own (.dic (ndD (t.pre.take i))), .own (.dic ab), .own (.lst ((t.pre.take i).map fun n => D.str n.m)), s5, s6]) _ ?_ ?_ ⟨[(.inr t.m, .non)], .emp, .emp, rfl, rfl, by simp, rfl⟩
  · rintro i d ρ N hd ⟨ab, s5, s6, u5, u6, hab, rfl⟩ hN
    rw [List.getElem?_map] at hd
    obtain ⟨n, hn, rfl⟩ := Option.map_eq_some_iff.mp hd
    have hi : i < t.pre.length := (List.getElem?_eq_some_iff.mp hn).1
    have hlt : (t.pre.take i).length ≤ 40 := by rw [List.length_take]; omega
    have hnew := pre_take_new hg.nd hn
    have hk : ∀ p ∈ ndD (t.pre.take i), p.1 ≠ .inr n.m := by
      intro p hp e
      obtain ⟨q, hq, rfl⟩ := List.mem_map.mp hp
      exact hnew q hq (Sum.inr.inj e)
    refine ⟨unF u5, ?_⟩
    show b_Page___init___l1 A _ [.par (.obj A.Page []), .shr t.d, .own (.dic (ndD (t.pre.take i))), .own (.dic ab), .own (.lst ((t.pre.take i).map fun n => D.str n.m)), .shr n.d, s6]
    rw [T.d_eq n]
    refine ife (by rw [getD_none hk]; decide) ?_
    show b_Page___init___l1t1 A _ [.par (.obj A.Page []), .shr t.d, .own (.dic (ndD (t.pre.take i))), .own (.dic ab), .own (.lst ((t.pre.take i).map fun n => D.str n.m)), .shr (.tup [.str n.m, .str n.l, .tup (n.ks.map T.d)]), s6]
    refine ⟨by unfold ndD; rw [List.length_map, sizeLine_eq]; omega, ?_⟩
    show b_Page___init___l1t2 A _ [.par (.obj A.Page []), .shr t.d, .own (.dic (putD (ndD (t.pre.take i)) (.inr n.m) (.tup [.str n.m, .str n.l, .tup (n.ks.map T.d)]))), .own (.dic ab), .own (.lst ((t.pre.take i).map fun n => D.str n.m)), .shr (.tup [.str n.m, .str n.l, .tup (n.ks.map T.d)]), s6]
    rw [putD_new hk]
    refine ⟨rfl, by rw [List.length_map, sizeLine_eq]; omega, ?_⟩
    have e1 : ndD (t.pre.take (i + 1)) = ndD (t.pre.take i) ++ [(.inr n.m, .tup [.str n.m, .str n.l, .tup (n.ks.map T.d)])] := by
      rw [List.take_add_one, hn]; simp [ndD, T.d_eq n]
    have e2 : (t.pre.take (i + 1)).map (fun n => D.str n.m) = (t.pre.take i).map (fun n => D.str n.m) ++ [.str n.m] := by
      rw [List.take_add_one, hn]; simp
    rw [← e1]
    show forL (gN 6) (b_Page___init___l1l2 A) _ (n.ks.map T.d) [.par (.obj A.Page []), .shr t.d, .own (.dic (ndD (t.pre.take (i + 1)))), .own (.dic ab), .own (.lst ((t.pre.take i).map (fun n => D.str n.m) ++ [.str n.m])), .shr (.tup [.str n.m, .str n.l, .tup (n.ks.map T.d)]), s6]
    rw [← e2]
    have hkl : n.ks.length ≤ 40 := by
      have h1 := pres_ge n.ks
      have h2 := pre_len_le (List.mem_of_getElem? hn)
      rw [T.pre_eq n, List.length_cons] at h2
      omega
    refine for_inv (fun j ρ => ∃ (ab : List (Key × D)) (s6 : Sl), s6.locked = false ∧ ab.length ≤ 1 + i * 100 + j ∧ ρ = [.par (.obj A.Page []), .shr t.d, .own (.dic (ndD (t.pre.take (i + 1)))), .own (.dic ab), .own (.lst ((t.pre.take (i + 1)).map fun n => D.str n.m)), .shr (.tup [.str n.m, .str n.l, .tup (n.ks.map T.d)]), s6]) _ ?_ ?_ ⟨ab, s6, u6, hab, rfl⟩
    · rintro j d ρ N hd ⟨ab, s6, u6, hab, rfl⟩ hN
      rw [List.getElem?_map] at hd
      obtain ⟨c, hc, rfl⟩ := Option.map_eq_some_iff.mp hd
      have hj : j < n.ks.length := (List.getElem?_eq_some_iff.mp hc).1
      refine ⟨unF u6, ?_⟩
      show b_Page___init___l1l2 A _ [.par (.obj A.Page []), .shr t.d, .own (.dic (ndD (t.pre.take (i + 1)))), .own (.dic ab), .own (.lst ((t.pre.take (i + 1)).map fun n => D.str n.m)), .shr (.tup [.str n.m, .str n.l, .tup (n.ks.map T.d)]), .shr c.d]
      rw [T.d_eq c]
      refine ⟨by rw [sizeLine_eq]; omega, hN _ ⟨putD ab (.inr c.m) (.str n.m), .shr (.tup [.str c.m, .str c.l, .tup (c.ks.map T.d)]), rfl, ?_, rfl⟩⟩
      have := putD_len ab (.inr c.m) (.str n.m)
      omega
    · rintro ρ ⟨ab, s6, u6, hab, rfl⟩
      rw [List.length_map] at hab
      exact ⟨trivial, hN _ ⟨ab, .shr (.tup [.str n.m, .str n.l, .tup (n.ks.map T.d)]), s6, rfl, u6, by omega, rfl⟩⟩
  · rintro ρ ⟨ab, s5, s6, u5, u6, hab, rfl⟩
    refine ⟨trivial, ?_⟩
    have hlt : ((t.pre.take (t.pre.map T.d).length).map fun n => D.str n.m).length ≤ 40 := by rw [List.length_map, List.length_take]; omega
    generalize (t.pre.take (t.pre.map T.d).length).map (fun n => D.str n.m) = or' at *
    generalize ndD (t.pre.take (t.pre.map T.d).length) = nn at *
    refine ife (fun z => ?_) ?_
    · have z : (400 : Int) < (or'.length : Nat) := of_decide_eq_true z
      omega
    exact ⟨rfl, by show 0 < 1000; decide, rfl, by show 1 < 1000; decide, rfl, by show 2 < 1000; decide, rfl, by show 3 < 1000; decide, h _ _ _⟩

end K18
end L3

set_option Elab.async false
set_option linter.all false
set_option maxRecDepth 100000
set_option autoImplicit false
set_option maxHeartbeats 0
namespace L3
namespace K18
open PySem PySem.Spec L2
open PyProof.Rows (b2i)
/-! ### the layout -/
theorem getD_map {α : Type} {f : α → Str} {g : α → D} : ∀ {l : List α}, (l.map f).Nodup → ∀ {a : α}, a ∈ l → getD' (l.map fun x => ((.inr (f x) : Key), g x)) (.inr (f a)) = some (g a)
  | [], _, _, h => by cases h
  | b :: l, hn, a, h => by
    rw [List.map_cons, List.nodup_cons] at hn
    rcases List.mem_cons.mp h with rfl | h
    · simp [getD', List.find?_cons]
    · have ne : ¬ f b = f a := fun e => hn.1 (e ▸ List.mem_map_of_mem h)
      have ih := getD_map (f := f) (g := g) hn.2 h
      rw [← ih]
      simp [getD', List.find?_cons, ne]
def szD (ns : List T) : List (Key × D) := ns.map fun n => (.inr n.m, sD n.sz)
mutual
theorem T.post_perm : ∀ t : T, t.post.Perm t.pre
  | .nd m l ks => by
    simp only [T.post, T.pre]
    exact (List.perm_append_singleton _ _).trans ((T.posts_perm ks).cons _)
theorem T.posts_perm : ∀ ts : List T, (T.posts ts).Perm (T.pres ts)
  | [] => by simp [T.posts, T.pres]
  | t :: ts => by
    simp only [T.posts, T.pres]
    exact (T.post_perm t).append (T.posts_perm ts)
end
theorem mem_posts : ∀ {ts : List T} {c : T}, c ∈ ts → c ∈ T.posts ts
  | t :: ts, c, h => by
    simp only [T.posts]
    rcases List.mem_cons.mp h with rfl | h
    · exact List.mem_append_left _ (by rw [T.post_eq]; simp)
    · exact List.mem_append_right _ (mem_posts h)
mutual
theorem T.post_kids : ∀ (t : T) (i : Nat) (n : T), t.post[i]? = some n → ∀ c ∈ n.ks, c ∈ t.post.take i
  | .nd m l ks, i, n, h, c, hc => by
    simp only [T.post] at h ⊢
    by_cases hi : i < (T.posts ks).length
    · rw [List.getElem?_append_left hi] at h
      rw [List.take_append]
      exact List.mem_append_left _ (T.posts_kids ks i n h c hc)
    · rw [List.getElem?_append_right (by omega)] at h
      have hz : i - (T.posts ks).length = 0 := by
        have := (List.getElem?_eq_some_iff.mp h).1
        rw [List.length_singleton] at this
        omega
      rw [hz] at h
      have e : n = .nd m l ks := (Option.some.inj h).symm
      subst e
      rw [List.take_append, List.take_of_length_le (by omega)]
      exact List.mem_append_left _ (mem_posts hc)
theorem T.posts_kids : ∀ (ts : List T) (i : Nat) (n : T), (T.posts ts)[i]? = some n → ∀ c ∈ n.ks, c ∈ (T.posts ts).take i
  | [], i, n, h, c, hc => by simp [T.posts] at h
  | t :: ts, i, n, h, c, hc => by
    simp only [T.posts] at h ⊢
    by_cases hi : i < t.post.length
    · rw [List.getElem?_append_left hi] at h
      rw [List.take_append]
      exact List.mem_append_left _ (T.post_kids t i n h c hc)
    · rw [List.getElem?_append_right (by omega)] at h
      rw [List.take_append]
      exact List.mem_append_right _ (T.posts_kids ts _ n h c hc)
end
theorem post_take_new {t : T} (hn : (t.post.map T.m).Nodup) {i : Nat} {n : T} (h : t.post[i]? = some n) : ∀ q ∈ t.post.take i, q.m ≠ n.m := by
  intro q hq e
  have hi : i < t.post.length := (List.getElem?_eq_some_iff.mp h).1
  rw [← List.take_append_drop i t.post, List.map_append] at hn
  have hd : t.post.drop i = n :: t.post.drop (i + 1) := by
    rw [List.drop_eq_getElem_cons hi]
    rw [List.getElem?_eq_getElem hi] at h
    rw [Option.some.inj h]
  rw [hd] at hn
  exact (List.nodup_append.mp hn).2.2 q.m (List.mem_map_of_mem hq) n.m (List.mem_cons_self ..) e
theorem T.good.post {t : T} (g : t.good) : (t.post.map T.m).Nodup := ((T.post_perm t).map T.m).nodup_iff.mpr g.nd
def laid0 (A : Ad) (pg : D) : D := .obj A.Laid [("kept_page", pg), ("pairs", .dic []), ("sizes", .dic []), ("places", .dic []), ("marks", .lst [])]
def laidD (A : Ad) (t : T) (pg P : D) : D := .obj A.Laid [("kept_page", pg), ("pairs", P), ("sizes", .dic (szD t.post)), ("places", .dic (bxD (t.bx 0 0))), ("marks", .lst (t.pre.map fun n => .str n.m))]
def sp_Page_top (A : Ad) : S3 := fun ds QR _ => ∃ t x y z, ds = [pageD A t x y z] ∧ QR t.d ds
def b_Page_top (A : Ad) : T3S := (sRet (eFld A.Page "tree" (eVar 0)))
theorem t_Page_top (A : Ad) : ∀ ds QR QO, sp_Page_top A ds QR QO → ds.length = 1 → b_Page_top A (endE [.shr] ds QR QO) (startE 0 [.shr] ds) := by
  rintro ds QR QO ⟨t, x, y, z, rfl, h⟩ _
  refine ⟨rfl, ?_⟩
  show wo (some t.d) _
  exact ⟨by rw [T.d_eq]; rfl, h⟩
theorem oks_sD : ∀ ss : List (Nat × Nat), D.oks (ss.map sD) = true
  | [] => rfl
  | s :: ss => by
    rw [List.map_cons]
    show (D.ok (sD s) && D.oks (ss.map sD)) = true
    rw [oks_sD ss]; rfl
theorem deps_sD : ∀ ss : List (Nat × Nat), D.deps (ss.map sD) ≤ 1
  | [] => by simp [D.deps]
  | s :: ss => by
    rw [List.map_cons]
    have e : D.deps (sD s :: ss.map sD) = max (D.dep (sD s)) (D.deps (ss.map sD)) := by simp [D.deps]
    have e1 : D.dep (sD s) = 1 := by simp [sD, D.dep, D.deps]
    have := deps_sD ss
    rw [e, e1]; omega
def prD (l : Str) (ss : List (Nat × Nat)) : D := .tup [.str l, .tup (ss.map sD)]
theorem prD_shp {n : Nat} {l : Str} (h : gd n l) (ss : List (Nat × Nat)) : (prD l ss).shp = true := by
  have h1 : PyData.strOk l = true := h.2
  have h2 := deps_sD ss
  have e : D.dep (prD l ss) ≤ 3 := by
    simp only [prD, D.dep, D.deps]
    omega
  unfold D.shp
  rw [Bool.and_eq_true, decide_eq_true_eq]
  refine ⟨?_, by omega⟩
  simp only [prD, D.ok, D.oks, h1, oks_sD, Bool.and_self]
def sp_Laid_measure_again (A : Ad) : S3 := fun ds QR _ => ∃ t x y z, ds = [laid0 A (pageD A t x y z), pageD A t x y z] ∧ t.good ∧ ∀ r P, QR r [laidD A t (pageD A t x y z) P, pageD A t x y z]
def b_Laid_measure_again_l1e1t1 (A : Ad) : T3S := (sDrop (eBM "list" mAppend (eVar 4) (aCons (eVar 5) aNil)))
def b_Laid_measure_again_l1t2 (A : Ad) : T3S := (sIf (fTst (eOp (oEq false) (eDG1 (eFld A.Laid "pairs" (eVar 0)) (eVar 5)) (eVar 8)))
 (sDPutD (eDGet (eFld A.Laid "sizes" (eVar 0)) (eVar 5)) (eVar 3) (eVar 5))
 (sSeq (sDPutD (eCall [.shr, .shr] (sp_measure A) (aCons (eVar 6) (aCons (eOp oIdx (eVar 8) (eC (.int 1))) aNil))) (eVar 3) (eVar 5))
 (b_Laid_measure_again_l1e1t1 A)))
def b_Laid_measure_again_l1t1 (A : Ad) : T3S := (sSeq (sDPutD (eVar 8) (eVar 2) (eVar 5))
 (b_Laid_measure_again_l1t2 A))
def b_Laid_measure_again_l1 (A : Ad) : T3S := (sSeq (sAsg (eTup (aCons (eVar 6) (aCons (eCB cTuple (aCons (eShr (oLc (iS (eVar 7)) (gN 9) fYes (eDGet (eVar 3) (eOp oIdx (eVar 9) (eC (.int 0)))) [9])) aNil)) aNil))) (gN 8))
 (b_Laid_measure_again_l1t1 A))
def b_Laid_measure_again_t9 (A : Ad) : T3S := (sRet (eCB cTuple (aCons (eVar 4) aNil)))
def b_Laid_measure_again_t8 (A : Ad) : T3S := (sSeq (sFldP A.Laid "marks" (eShr (oListK (aCons (eFld A.Laid "places" (eVar 0)) aNil))) (eVar 0))
 (b_Laid_measure_again_t9 A))
def b_Laid_measure_again_t7 (A : Ad) : T3S := (sSeq (sFldP A.Laid "places" (eCall [.shr, .shr] (sp_rectangles A) (aCons (eProp A.Page .shr (sp_Page_top A) (eVar 1)) (aCons (eVar 3) aNil))) (eVar 0))
 (b_Laid_measure_again_t8 A))
def b_Laid_measure_again_t6 (A : Ad) : T3S := (sSeq (sFrz 3 (sFldP A.Laid "sizes" (eVar 3) (eVar 0)))
 (b_Laid_measure_again_t7 A))
def b_Laid_measure_again_t5 (A : Ad) : T3S := (sSeq (sFrz 2 (sFldP A.Laid "pairs" (eVar 2) (eVar 0)))
 (b_Laid_measure_again_t6 A))
def b_Laid_measure_again_t4 (A : Ad) : T3S := (sSeq (sFldP A.Laid "kept_page" (eVar 1) (eVar 0))
 (b_Laid_measure_again_t5 A))
def b_Laid_measure_again_t3 (A : Ad) : T3S := (sSeq (sFor (iS (eCall [.shr] (sp_from_below A) (aCons (eProp A.Page .shr (sp_Page_top A) (eVar 1)) aNil))) (gT 3 (fun xs ρ Q => match xs with | x :: r => (gN 5) x ρ fun ρ1 => (fun xs ρ Q => match xs with | x :: r => (gN 6) x ρ fun ρ1 => (fun xs ρ Q => match xs with | x :: r => (gN 7) x ρ fun ρ1 => (fun xs ρ Q => xs = [] ∧ Q ρ) r ρ1 Q | [] => False) r ρ1 Q | [] => False) r ρ1 Q | [] => False))
 (b_Laid_measure_again_l1 A))
 (b_Laid_measure_again_t4 A))
def b_Laid_measure_again_t2 (A : Ad) : T3S := (sSeq (sAsgO (oLst aNil) 4)
 (b_Laid_measure_again_t3 A))
def b_Laid_measure_again_t1 (A : Ad) : T3S := (sSeq (sAsgO oDicE 3)
 (b_Laid_measure_again_t2 A))
def b_Laid_measure_again (A : Ad) : T3S := (sSeq (sAsgO oDicE 2)
 (b_Laid_measure_again_t1 A))
theorem t_Laid_measure_again (A : Ad) : ∀ ds QR QO, sp_Laid_measure_again A ds QR QO → ds.length = 2 → b_Laid_measure_again A (endE [.par, .shr] ds QR QO) (startE 8 [.par, .shr] ds) := by
  rintro ds QR QO ⟨t, x, y, z, rfl, hg, h⟩ _
  have hl : t.pre.length ≤ 40 := hg.len
  have hpl : t.post.length ≤ 40 := by rw [T.post_len]; exact hl
  have hpn := hg.post
  generalize hpg : pageD A t x y z = pg at h ⊢
  have hpd : pg = .obj A.Page [("tree", t.d), ("nodes", x), ("above", y), ("order", z)] := hpg.symm
  refine ⟨rfl, ?_⟩
  show b_Laid_measure_again_t1 A _ [.par (laid0 A pg), .shr pg, .own (.dic []), .emp, .emp, .emp, .emp, .emp, .emp, .emp]
  refine ⟨rfl, ?_⟩
  show b_Laid_measure_again_t2 A _ [.par (laid0 A pg), .shr pg, .own (.dic []), .own (.dic []), .emp, .emp, .emp, .emp, .emp, .emp]
  refine ⟨sz _ rfl, rfl, ?_⟩
  show b_Laid_measure_again_t3 A _ [.par (laid0 A pg), .shr pg, .own (.dic []), .own (.dic []), .own (.lst []), .emp, .emp, .emp, .emp, .emp]
  have page : ∀ {E : E3} {P : D} {S : List (Key × D)} {M : D} {s5 s6 s7 s8 : Sl}, forL (gT 3 (fun xs ρ Q => match xs with | x :: r => (gN 5) x ρ fun ρ1 => (fun xs ρ Q => match xs with | x :: r => (gN 6) x ρ fun ρ1 => (fun xs ρ Q => match xs with | x :: r => (gN 7) x ρ fun ρ1 => (fun xs ρ Q => xs = [] ∧ Q ρ) r ρ1 Q | [] => False) r ρ1 Q | [] => False) r ρ1 Q | [] => False)) (b_Laid_measure_again_l1 A) (E3.under { E with nx := b_Laid_measure_again_t4 A E } [.par (laid0 A pg), .shr pg, .own P, .own (.dic S), .own M, s5, s6, s7, s8, .emp] (.val (.lst (t.post.map T.d)))) (t.post.map T.d) [.par (laid0 A pg), .shr pg, .own P, .own (.dic S), .own M, s5, s6, s7, s8, .emp] →
      b_Laid_measure_again_t3 A E [.par (laid0 A pg), .shr pg, .own P, .own (.dic S), .own M, s5, s6, s7, s8, .emp] := by
    intro E P S M s5 s6 s7 s8 q
    subst hpd
    exact ⟨rfl, rfl, t, x, y, z, rfl, rfl, t, rfl, by omega, q⟩
  refine page ?_
  refine for_inv (fun i ρ => ∃ (P : List (Key × D)) (M : List D) (s5 s6 s7 s8 : Sl), s5.locked = false ∧ s6.locked = false ∧ s7.locked = false ∧ s8.locked = false ∧ P.length ≤ i ∧ M.length ≤ i ∧ ρ = [.par (laid0 A pg), .shr pg, .own (.dic P), .own (.dic (szD (t.post.take i))), .own (.lst M), s5, s6, s7, s8, .emp]) _ ?_ ?_ ⟨[], [], .emp, .emp, .emp, .emp, rfl, rfl, rfl, rfl, by simp, by simp, rfl⟩
  · rintro i d ρ N hd ⟨P, M, s5, s6, s7, s8, u5, u6, u7, u8, hP, hM, rfl⟩ hN
    rw [List.getElem?_map] at hd
    obtain ⟨n, hn, rfl⟩ := Option.map_eq_some_iff.mp hd
    have hi : i < t.post.length := (List.getElem?_eq_some_iff.mp hn).1
    have hnp : n ∈ t.pre := (T.post_perm t).mem_iff.mp (List.mem_of_getElem? hn)
    have hgl : gd 20 n.l := (hg.ok n hnp).2
    have hnew := post_take_new hpn hn
    have htn : ((t.post.take i).map T.m).Nodup := by
      have := hpn
      rw [← List.take_append_drop i t.post, List.map_append] at this
      exact (List.nodup_append.mp this).1
    have hkl : n.ks.length ≤ 40 := by
      have h1 := pres_ge n.ks
      have h2 := pre_len_le hnp
      rw [T.pre_eq n, List.length_cons] at h2
      omega
    rw [T.d_eq n]
    refine ⟨rfl, unF u5, unF u6, unF u7, rfl, ?_⟩
    show b_Laid_measure_again_l1 A _ [.par (laid0 A pg), .shr pg, .own (.dic P), .own (.dic (szD (t.post.take i))), .own (.lst M), .shr (.str n.m), .shr (.str n.l), .shr (.tup (n.ks.map T.d)), s8, .emp]
    refine lc_of (ρ := [.par (laid0 A pg), .shr pg, .own (.dic P), .own (.dic (szD (t.post.take i))), .own (.lst M), .shr (.str n.m), .shr (.str n.l), .shr (.tup (n.ks.map T.d)), s8, .emp]) n.ks T.d (fun c => some (sD c.sz)) rfl rfl (by rw [sizeLine_eq]; omega) (fun c hc acc N hl hN => ?_) ⟨trivial, ?_⟩
    · rw [T.d_eq c]
      have hk : getD' (szD (t.post.take i)) (.inr c.m) = some (sD c.sz) := getD_map (f := T.m) (g := fun n => sD n.sz) htn (T.post_kids t i n hn c hc)
      exact ⟨rfl, wo_in hk ⟨hl, hN⟩⟩
    rw [fm_all]
    have ek : n.ks.map (fun c => sD c.sz) = (n.ks.map T.sz).map sD := by rw [List.map_map]; rfl
    rw [ek]
    refine ⟨sz _ rfl, unF u8, ?_⟩
    show b_Laid_measure_again_l1t1 A _ [.par (laid0 A pg), .shr pg, .own (.dic P), .own (.dic (szD (t.post.take i))), .own (.lst M), .shr (.str n.m), .shr (.str n.l), .shr (.tup (n.ks.map T.d)), .shr (prD n.l (n.ks.map T.sz)), .emp]
    refine ⟨by rw [sizeLine_eq]; omega, ?_⟩
    show b_Laid_measure_again_l1t2 A _ [.par (laid0 A pg), .shr pg, .own (.dic (putD P (.inr n.m) (prD n.l (n.ks.map T.sz)))), .own (.dic (szD (t.post.take i))), .own (.lst M), .shr (.str n.m), .shr (.str n.l), .shr (.tup (n.ks.map T.d)), .shr (prD n.l (n.ks.map T.sz)), .emp]
    have hP2 := putD_len P (.inr n.m) (prD n.l (n.ks.map T.sz))
    generalize putD P (.inr n.m) (prD n.l (n.ks.map T.sz)) = P2 at hP2 ⊢
    refine ⟨rfl, rfl, rfl, prD_shp hgl _, ?_⟩
    have hk : ∀ p ∈ szD (t.post.take i), p.1 ≠ .inr n.m := by
      intro p hp e
      obtain ⟨q, hq, rfl⟩ := List.mem_map.mp hp
      exact hnew q hq (Sum.inr.inj e)
    have hsl : (szD (t.post.take i)).length < sizeLine := by
      unfold szD; rw [List.length_map, List.length_take, sizeLine_eq]; omega
    refine ⟨rfl, n.l, n.ks.map T.sz, rfl, hgl, hsl, ?_⟩
    show b_Laid_measure_again_l1e1t1 A _ [.par (laid0 A pg), .shr pg, .own (.dic P2), .own (.dic (putD (szD (t.post.take i)) (.inr n.m) (sD (meas n.l (n.ks.map T.sz))))), .own (.lst M), .shr (.str n.m), .shr (.str n.l), .shr (.tup (n.ks.map T.d)), .shr (prD n.l (n.ks.map T.sz)), .emp]
    rw [putD_new hk, ← T.sz_eq]
    have e1 : szD (t.post.take i) ++ [(.inr n.m, sD n.sz)] = szD (t.post.take (i + 1)) := by
      rw [List.take_add_one, hn]; simp [szD]
    rw [e1]
    refine ⟨rfl, by rw [sizeLine_eq]; omega, hN _ ⟨P2, M ++ [.str n.m], .shr (.str n.m), .shr (.str n.l), .shr (.tup (n.ks.map T.d)), .shr (prD n.l (n.ks.map T.sz)), rfl, rfl, rfl, rfl, by omega, by rw [List.length_append, List.length_singleton]; omega, rfl⟩⟩
  · rintro ρ ⟨P, M, s5, s6, s7, s8, u5, u6, u7, u8, hP, hM, rfl⟩
    refine ⟨trivial, ?_⟩
    rw [List.length_map, List.take_length]
    have hs : ∀ n ∈ t.pre, getD' (szD t.post) (.inr n.m) = some (sD n.sz) ∧ gd 20 n.l := fun n hn => ⟨getD_map (f := T.m) (g := fun n => sD n.sz) hpn ((T.post_perm t).mem_iff.mpr hn), (hg.ok n hn).2⟩
    have em : (bxD (t.bx 0 0)).map (fun p => kD p.1) = t.pre.map fun n => D.str n.m := by
      have := congrArg (List.map D.str) (T.bx_keys t 0 0)
      rw [List.map_map, List.map_map] at this
      unfold bxD
      rw [List.map_map]
      exact this
    refine ⟨rfl, by show 5 < 1000; decide, rfl, by show 5 < 1000; decide, rfl, by show 5 < 1000; decide, ?_⟩
    have rect : ∀ {E : E3} {M : D} {a b c d : D}, b_Laid_measure_again_t8 A E [.par (.obj A.Laid [("kept_page", a), ("pairs", b), ("sizes", c), ("places", .dic (bxD (t.bx 0 0))), ("marks", d)]), .shr pg, .shr (.dic P), .shr (.dic (szD t.post)), .own M, s5, s6, s7, s8, .emp] →
        b_Laid_measure_again_t7 A E [.par (.obj A.Laid [("kept_page", a), ("pairs", b), ("sizes", c), ("places", .dic []), ("marks", d)]), .shr pg, .shr (.dic P), .shr (.dic (szD t.post)), .own M, s5, s6, s7, s8, .emp] := by
      intro E M a b c d q
      subst hpd
      exact ⟨rfl, rfl, t, x, y, z, rfl, rfl, t, szD t.post, rfl, hs, hg.nd, by omega, rfl, by show 5 < 1000; decide, q⟩
    refine rect ?_
    have fin : ∀ {E : E3} {M : D} {a b c e : D}, b_Laid_measure_again_t9 A E [.par (.obj A.Laid [("kept_page", a), ("pairs", b), ("sizes", c), ("places", .dic (bxD (t.bx 0 0))), ("marks", .lst ((bxD (t.bx 0 0)).map fun p => kD p.1))]), .shr pg, .shr (.dic P), .shr (.dic (szD t.post)), .own M, s5, s6, s7, s8, .emp] →
        b_Laid_measure_again_t8 A E [.par (.obj A.Laid [("kept_page", a), ("pairs", b), ("sizes", c), ("places", .dic (bxD (t.bx 0 0))), ("marks", e)]), .shr pg, .shr (.dic P), .shr (.dic (szD t.post)), .own M, s5, s6, s7, s8, .emp] := by
      intro E M a b c e q
      exact ⟨rfl, rfl, rfl, by show 5 < 1000; decide, q⟩
    refine fin ?_
    rw [em]
    exact h _ (.dic P)
def sp_Laid___init__ (A : Ad) : S3 := fun ds QR _ => ∃ t x y z, ds = [.obj A.Laid [], pageD A t x y z] ∧ t.good ∧ ∀ P, QR .non [laidD A t (pageD A t x y z) P, pageD A t x y z]
def b_Laid___init___t5 (A : Ad) : T3S := (sDrop (eMeth A.Laid "measure_again" [.par, .shr] (sp_Laid_measure_again A) (eVar 0) (aCons (eVar 1) aNil)))
def b_Laid___init___t4 (A : Ad) : T3S := (sSeq (sFldP A.Laid "marks" (eLst aNil) (eVar 0))
 (b_Laid___init___t5 A))
def b_Laid___init___t3 (A : Ad) : T3S := (sSeq (sFldP A.Laid "places" (eShr oDicE) (eVar 0))
 (b_Laid___init___t4 A))
def b_Laid___init___t2 (A : Ad) : T3S := (sSeq (sFldP A.Laid "sizes" (eShr oDicE) (eVar 0))
 (b_Laid___init___t3 A))
def b_Laid___init___t1 (A : Ad) : T3S := (sSeq (sFldP A.Laid "pairs" (eShr oDicE) (eVar 0))
 (b_Laid___init___t2 A))
def b_Laid___init__ (A : Ad) : T3S := (sSeq (sFldP A.Laid "kept_page" (eVar 1) (eVar 0))
 (b_Laid___init___t1 A))
theorem t_Laid___init__ (A : Ad) : ∀ ds QR QO, sp_Laid___init__ A ds QR QO → ds.length = 2 → b_Laid___init__ A (endE [.par, .shr] ds QR QO) (startE 0 [.par, .shr] ds) := by
  rintro ds QR QO ⟨t, x, y, z, rfl, hg, h⟩ _
  refine ⟨rfl, by show 0 < 1000; decide, rfl, by show 1 < 1000; decide, rfl, by show 2 < 1000; decide, rfl, by show 3 < 1000; decide, sz _ rfl, rfl, by show 4 < 1000; decide, ?_⟩
  exact ⟨⟨rfl, rfl⟩, rfl, t, x, y, z, rfl, hg, fun r P => h P⟩
theorem T.good.bxn {t : T} (g : t.good) (x y : Nat) : ((t.bx x y).map (·.1)).Nodup := by rw [T.bx_keys]; exact g.nd
def sp_Laid___getitem__ (A : Ad) : S3 := fun ds QR _ => ∃ t pg P m b, ds = [laidD A t pg P, .str m] ∧ getD' (bxD (t.bx 0 0)) (.inr m) = some (bD b) ∧ QR (bD b) ds
def b_Laid___getitem___t1 (A : Ad) : T3S := (sRet (eDGet (eFld A.Laid "places" (eVar 0)) (eVar 1)))
def b_Laid___getitem__ (A : Ad) : T3S := (sSeq (sIf (fTst (fDIn true (eVar 1) (eFld A.Laid "places" (eVar 0))))
 sNever
 sNext)
 (b_Laid___getitem___t1 A))
theorem t_Laid___getitem__ (A : Ad) : ∀ ds QR QO, sp_Laid___getitem__ A ds QR QO → ds.length = 2 → b_Laid___getitem__ A (endE [.shr, .shr] ds QR QO) (startE 0 [.shr, .shr] ds) := by
  rintro ds QR QO ⟨t, pg, P, m, b, rfl, hb, h⟩ _
  refine ⟨rfl, rfl, ife (by rw [hb]; exact Bool.false_ne_true) ?_⟩
  exact ⟨rfl, rfl, wo_in hb h⟩

end K18
end L3

set_option Elab.async false
set_option linter.all false
set_option maxRecDepth 100000
set_option autoImplicit false
set_option maxHeartbeats 0
namespace L3
namespace K18
open PySem PySem.Spec L2
open PyProof.Rows (b2i)
/-! ### hits -/
def inI (b : Bx) (x y : Int) : Bool := (decide ((b.x : Int) ≤ x) && decide (x < (b.x : Int) + (b.w : Nat))) && (decide ((b.y : Int) ≤ y) && decide (y < (b.y : Int) + (b.h : Nat)))
def hitI (L : List (Str × Bx)) (x y : Int) : D := L.foldl (fun r b => if inI b.2 x y = true then .str b.1 else r) .non
theorem hitI_take {L : List (Str × Bx)} {i : Nat} {b : Str × Bx} (h : L[i]? = some b) (x y : Int) : hitI (L.take (i + 1)) x y = if inI b.2 x y = true then .str b.1 else hitI (L.take i) x y := by
  rw [List.take_add_one, h]
  simp [hitI, List.foldl_append]
def sp_Laid_hit (A : Ad) : S3 := fun ds QR _ => ∃ t pg P, ∃ (x y : Int), ds = [laidD A t pg P, .int x, .int y] ∧ t.good ∧ QR (hitI (t.bx 0 0) x y) ds
def b_Laid_hit_l1t1 (A : Ad) : T3S := (sIf (fAnd (fTst (eChain oLe oLt (eVar 5) (eVar 1) (eOp oAdd (eVar 5) (eVar 7)))) (fTst (eChain oLe oLt (eVar 6) (eVar 2) (eOp oAdd (eVar 6) (eVar 8)))))
 (sAsg (eVar 4) (gN 3))
 sNext)
def b_Laid_hit_l1 (A : Ad) : T3S := (sSeq (sAsg (eDGet (eFld A.Laid "places" (eVar 0)) (eVar 4)) (gT 4 (fun xs ρ Q => match xs with | x :: r => (gN 5) x ρ fun ρ1 => (fun xs ρ Q => match xs with | x :: r => (gN 6) x ρ fun ρ1 => (fun xs ρ Q => match xs with | x :: r => (gN 7) x ρ fun ρ1 => (fun xs ρ Q => match xs with | x :: r => (gN 8) x ρ fun ρ1 => (fun xs ρ Q => xs = [] ∧ Q ρ) r ρ1 Q | [] => False) r ρ1 Q | [] => False) r ρ1 Q | [] => False) r ρ1 Q | [] => False)))
 (b_Laid_hit_l1t1 A))
def b_Laid_hit_t2 (A : Ad) : T3S := (sRet (eVar 3))
def b_Laid_hit_t1 (A : Ad) : T3S := (sSeq (sFor (iS (eFld A.Laid "marks" (eVar 0))) (gN 4)
 (b_Laid_hit_l1 A))
 (b_Laid_hit_t2 A))
def b_Laid_hit (A : Ad) : T3S := (sSeq (sAsg (eC .non) (gN 3))
 (b_Laid_hit_t1 A))
theorem t_Laid_hit (A : Ad) : ∀ ds QR QO, sp_Laid_hit A ds QR QO → ds.length = 3 → b_Laid_hit A (endE [.shr, .shr, .shr] ds QR QO) (startE 6 [.shr, .shr, .shr] ds) := by
  rintro ds QR QO ⟨t, pg, P, x, y, rfl, hg, h⟩ _
  have em : t.pre.map (fun n => D.str n.m) = (t.bx 0 0).map fun b => D.str b.1 := by
    have := congrArg (List.map D.str) (T.bx_keys t 0 0)
    rw [List.map_map, List.map_map] at this
    exact this.symm
  refine ⟨rfl, ?_⟩
  show b_Laid_hit_t1 A _ [.shr (laidD A t pg P), .shr (.int x), .shr (.int y), .shr .non, .emp, .emp, .emp, .emp, .emp]
  refine ⟨rfl, rfl, ?_⟩
  show forL (gN 4) (b_Laid_hit_l1 A) _ (t.pre.map fun n => D.str n.m) [.shr (laidD A t pg P), .shr (.int x), .shr (.int y), .shr .non, .emp, .emp, .emp, .emp, .emp]
  rw [em]
  refine for_inv (fun i ρ => ∃ (s4 s5 s6 s7 s8 : Sl), s4.locked = false ∧ s5.locked = false ∧ s6.locked = false ∧ s7.locked = false ∧ s8.locked = false ∧ ρ = [.shr (laidD A t pg P), .shr (.int x), .shr (.int y), .shr (hitI ((t.bx 0 0).take i) x y), s4, s5, s6, s7, s8]) _ ?_ ?_ ⟨.emp, .emp, .emp, .emp, .emp, rfl, rfl, rfl, rfl, rfl, rfl⟩
  · rintro i d ρ N hd ⟨s4, s5, s6, s7, s8, u4, u5, u6, u7, u8, rfl⟩ hN
    rw [List.getElem?_map] at hd
    obtain ⟨b, hb, rfl⟩ := Option.map_eq_some_iff.mp hd
    have hbm := List.mem_of_getElem? hb
    have st := hitI_take hb x y
    refine ⟨unF u4, ?_⟩
    show b_Laid_hit_l1 A _ [.shr (laidD A t pg P), .shr (.int x), .shr (.int y), .shr (hitI ((t.bx 0 0).take i) x y), .shr (.str b.1), s5, s6, s7, s8]
    refine ⟨rfl, rfl, wo_in (getD_map (f := fun b : Str × Bx => b.1) (g := fun b => bD b.2) (hg.bxn 0 0) hbm) ⟨rfl, unF u5, unF u6, unF u7, unF u8, rfl, ?_⟩⟩
    obtain ⟨m, b⟩ := b
    show b_Laid_hit_l1t1 A _ [.shr (laidD A t pg P), .shr (.int x), .shr (.int y), .shr (hitI ((t.bx 0 0).take i) x y), .shr (.str m), .shr (.int (b.x : Nat)), .shr (.int (b.y : Nat)), .shr (.int (b.w : Nat)), .shr (.int (b.h : Nat))]
    have no : inI b x y = false → N [.shr (laidD A t pg P), .shr (.int x), .shr (.int y), .shr (hitI ((t.bx 0 0).take i) x y), .shr (.str m), .shr (.int (b.x : Nat)), .shr (.int (b.y : Nat)), .shr (.int (b.w : Nat)), .shr (.int (b.h : Nat))] := fun q =>
      hN _ ⟨.shr (.str m), .shr (.int (b.x : Nat)), .shr (.int (b.y : Nat)), .shr (.int (b.w : Nat)), .shr (.int (b.h : Nat)), rfl, rfl, rfl, rfl, rfl, by rw [st]; simp only [q, Bool.false_eq_true, if_false]⟩
    have bf : ∀ {c : Bool}, ¬ c = true → c = false := fun h => Bool.eq_false_iff.mpr h
    refine ifs (fun z1 => ifs (fun z2 => ifs (fun z3 => ifs (fun z4 => ?_) fun z4 => no ?_) fun z3 => no ?_) fun z2 => no ?_) fun z1 => no ?_
    · have q : inI b x y = true := by unfold inI; rw [z1, z2, z3, z4]; rfl
      exact ⟨rfl, hN _ ⟨.shr (.str m), .shr (.int (b.x : Nat)), .shr (.int (b.y : Nat)), .shr (.int (b.w : Nat)), .shr (.int (b.h : Nat)), rfl, rfl, rfl, rfl, rfl, by rw [st]; simp only [q, if_true]; rfl⟩⟩
    · unfold inI; rw [bf z4]; simp
    · unfold inI; rw [bf z3]; simp
    · unfold inI; rw [bf z2]; simp
    · unfold inI; rw [bf z1]; simp
  · rintro ρ ⟨s4, s5, s6, s7, s8, u4, u5, u6, u7, u8, rfl⟩
    rw [List.length_map, List.take_length]
    exact ⟨trivial, h⟩
/-! ### pictures -/
def linesD (p : List (List Str)) : List D := p.map fun line => .lst (line.map D.str)
def picD (t : T) : D := .tup [.int (t.sz.1 : Nat), .lst (linesD t.pic)]
theorem rowL_app (m : Str) (ts us : List T) (y : Nat) : T.rowL m (ts ++ us) y = T.rowL m ts y ++ T.rowL m us y := by
  induction ts with
  | nil => simp [T.rowL]
  | cons t ts ih => simp [T.rowL, ih]
theorem colL_app (m : Str) (w : Nat) (ts us : List T) : T.colL m w (ts ++ us) = T.colL m w ts ++ T.colL m w us := by
  induction ts with
  | nil => simp [T.colL]
  | cons t ts ih => simp [T.colL, ih]
mutual
theorem T.sz_le : ∀ t : T, (∀ q ∈ t.pre, gd 20 q.l) → t.sz.1 ≤ 20 * t.pre.length ∧ t.sz.2 ≤ t.pre.length
  | .nd m l ks, h => by
    have h0 : l.length ≤ 20 := (h (.nd m l ks) (self_pre _)).1
    obtain ⟨h1, h2, h3, h4⟩ := T.szs_le ks fun q hq => h q (by rw [T.pre_eq]; exact List.mem_cons_of_mem _ hq)
    rw [T.pre_eq, List.length_cons]
    show (T.sz (.nd m l ks)).1 ≤ 20 * ((T.pres ks).length + 1) ∧ (T.sz (.nd m l ks)).2 ≤ (T.pres ks).length + 1
    simp only [T.sz, meas]
    split
    · split
      · simp
      · simp only; omega
    · split
      · simp only; omega
      · simp only; omega
theorem T.szs_le : ∀ ts : List T, (∀ q ∈ T.pres ts, gd 20 q.l) → sumW (T.szs ts) ≤ 20 * (T.pres ts).length ∧ maxW (T.szs ts) ≤ 20 * (T.pres ts).length ∧ sumH (T.szs ts) ≤ (T.pres ts).length ∧ maxH (T.szs ts) ≤ (T.pres ts).length
  | [], _ => by simp [T.szs, sumW, maxW, sumH, maxH]
  | t :: ts, h => by
    simp only [T.pres] at h ⊢
    obtain ⟨h1, h2⟩ := T.sz_le t fun q hq => h q (List.mem_append_left _ hq)
    obtain ⟨h3, h4, h5, h6⟩ := T.szs_le ts fun q hq => h q (List.mem_append_right _ hq)
    simp only [T.szs, sumW, maxW, sumH, maxH, List.length_append]
    omega
end
theorem flat_rep {α : Type} (a : α) : ∀ n : Nat, (List.replicate n [a]).flatten = List.replicate n a
  | 0 => rfl
  | n + 1 => by rw [List.replicate_succ, List.flatten_cons, flat_rep a n]; rfl
theorem rep_str (m : Str) (n : Nat) : (List.replicate n [D.str m]).flatten = (List.replicate n m).map D.str := by
  rw [flat_rep, List.map_replicate]
theorem ints_map {α : Type} (f : α → Int) : ∀ l : List α, intsOf (l.map fun a => D.int (f a)) = some (l.map f)
  | [] => rfl
  | a :: l => by
    rw [List.map_cons, List.map_cons]
    show (intsOf (l.map fun a => D.int (f a))).map (f a :: ·) = _
    rw [ints_map f l]; rfl
theorem sum_szs : ∀ ts : List T, (ts.map fun c => (c.sz.1 : Int)).sum = ((sumW (ts.map T.sz) : Nat) : Int)
  | [] => rfl
  | t :: ts => by
    rw [List.map_cons, List.map_cons, List.sum_cons, sum_szs ts]
    simp only [sumW]
    push_cast; rfl
theorem take_snoc {α : Type} {l : List α} {i : Nat} {a : α} (h : l[i]? = some a) : l.take (i + 1) = l.take i ++ [a] := by
  rw [List.take_add_one, h]; rfl
theorem linesD_len (p : List (List Str)) : (linesD p).length = p.length := by unfold linesD; rw [List.length_map]
theorem linesD_get {p : List (List Str)} {i : Nat} {line : List Str} (h : p[i]? = some line) : (linesD p)[i]? = some (.lst (line.map D.str)) := by unfold linesD; rw [List.getElem?_map, h]; rfl

end K18
end L3

set_option Elab.async false
set_option linter.all false
set_option maxRecDepth 100000
set_option autoImplicit false
set_option maxHeartbeats 0
namespace L3
namespace K18
open PySem PySem.Spec L2
open PyProof.Rows (b2i)
def free (s : Sl) : Prop := s = .emp ∨ ∃ d, s = .shr d
theorem free.un {s : Sl} (h : free s) : (!s.locked) = true := by
  rcases h with rfl | ⟨_, rfl⟩ <;> rfl
def sp__law_picture' (n : Nat) : S3 := fun ds QR _ => ∃ t : T, ds = [t.d] ∧ t.ht ≤ n ∧ t.pre.length ≤ 40 ∧ (∀ q ∈ t.pre, gd 20 q.l) ∧ QR (picD t) ds
def sp__law_picture (A : Ad) : S3 := sp__law_picture' 6
def b__law_picture_c1t1 (A : Ad) (me : S3) : T3S := (sRet (eTup (aCons (eCB cLen (aCons (eOp oIdx (eVar 0) (eC (.int 1))) aNil)) (aCons (eLst (aCons (eOp oMul (eLst (aCons (eOp oIdx (eVar 0) (eC (.int 0))) aNil)) (eCB cLen (aCons (eOp oIdx (eVar 0) (eC (.int 1))) aNil))) aNil)) aNil))))
def b__law_picture_c3l1 (A : Ad) (me : S3) : T3S := (sIf (fTst (eOp oGt (eCB cLen (aCons (eVar 5) aNil)) (eVar 3)))
 (sAsg (eCB cLen (aCons (eVar 5) aNil)) (gN 3))
 sNext)
def b__law_picture_c3l2l3 (A : Ad) (me : S3) : T3S := (sDrop (eBM "list" mExtend (eVar 7) (aCons (eIf (fTst (eOp oLt (eVar 6) (eCB cLen (aCons (eVar 5) aNil)))) (eOp oIdx (eVar 5) (eVar 6)) (eOp oMul (eLst (aCons (eOp oIdx (eVar 0) (eC (.int 0))) aNil)) (eVar 4))) aNil)))
def b__law_picture_c3l2t2 (A : Ad) (me : S3) : T3S := (sFrz 7 (sDrop (eBM "list" mAppend (eVar 2) (aCons (eVar 7) aNil))))
def b__law_picture_c3l2t1 (A : Ad) (me : S3) : T3S := (sSeq (sFor (iS (eVar 1)) (gT 2 (fun xs ρ Q => match xs with | x :: r => (gN 4) x ρ fun ρ1 => (fun xs ρ Q => match xs with | x :: r => (gN 5) x ρ fun ρ1 => (fun xs ρ Q => xs = [] ∧ Q ρ) r ρ1 Q | [] => False) r ρ1 Q | [] => False))
 (b__law_picture_c3l2l3 A me))
 (b__law_picture_c3l2t2 A me))
def b__law_picture_c3l2 (A : Ad) (me : S3) : T3S := (sSeq (sAsgO (oLst aNil) 7)
 (b__law_picture_c3l2t1 A me))
def b__law_picture_c3t2 (A : Ad) (me : S3) : T3S := (sFrz 2 (sRet (eTup (aCons (eCB cSum (aCons (eShr (oLc (iS (eVar 1)) (gT 2 (fun xs ρ Q => match xs with | x :: r => (gN 4) x ρ fun ρ1 => (fun xs ρ Q => match xs with | x :: r => (gN 5) x ρ fun ρ1 => (fun xs ρ Q => xs = [] ∧ Q ρ) r ρ1 Q | [] => False) r ρ1 Q | [] => False)) fYes (eVar 4) [4, 5])) aNil)) (aCons (eVar 2) aNil)))))
def b__law_picture_c3t1 (A : Ad) (me : S3) : T3S := (sSeq (sFor (iR1 (aCons (eVar 3) aNil)) (gN 6)
 (b__law_picture_c3l2 A me))
 (b__law_picture_c3t2 A me))
def b__law_picture_l4 (A : Ad) (me : S3) : T3S := (sIf (fTst (eOp oGt (eVar 4) (eVar 3)))
 (sAsg (eVar 4) (gN 3))
 sNext)
def b__law_picture_l5 (A : Ad) (me : S3) : T3S := (sDrop (eBM "list" mExtend (eVar 2) (aCons (eShr (oLc (iS (eVar 5)) (gN 7) fYes (eOp oAdd (eVar 7) (eOp oMul (eLst (aCons (eOp oIdx (eVar 0) (eC (.int 0))) aNil)) (eOp (oI0 fun i j => .int (i - j)) (eVar 3) (eVar 4)))) [7])) aNil)))
def b__law_picture_t7 (A : Ad) (me : S3) : T3S := (sFrz 2 (sRet (eTup (aCons (eVar 3) (aCons (eVar 2) aNil)))))
def b__law_picture_t6 (A : Ad) (me : S3) : T3S := (sSeq (sFor (iS (eVar 1)) (gT 2 (fun xs ρ Q => match xs with | x :: r => (gN 4) x ρ fun ρ1 => (fun xs ρ Q => match xs with | x :: r => (gN 5) x ρ fun ρ1 => (fun xs ρ Q => xs = [] ∧ Q ρ) r ρ1 Q | [] => False) r ρ1 Q | [] => False))
 (b__law_picture_l5 A me))
 (b__law_picture_t7 A me))
def b__law_picture_t5 (A : Ad) (me : S3) : T3S := (sSeq (sFor (iS (eVar 1)) (gT 2 (fun xs ρ Q => match xs with | x :: r => (gN 4) x ρ fun ρ1 => (fun xs ρ Q => match xs with | x :: r => (gN 5) x ρ fun ρ1 => (fun xs ρ Q => xs = [] ∧ Q ρ) r ρ1 Q | [] => False) r ρ1 Q | [] => False))
 (b__law_picture_l4 A me))
 (b__law_picture_t6 A me))
def b__law_picture_t4 (A : Ad) (me : S3) : T3S := (sSeq (sIf (fTst (eOp (oEq false) (eOp oIdx (eVar 0) (eC (.int 1))) (eC (.str "row"))))
 (sSeq (sFor (iS (eVar 1)) (gT 2 (fun xs ρ Q => match xs with | x :: r => (gN 4) x ρ fun ρ1 => (fun xs ρ Q => match xs with | x :: r => (gN 5) x ρ fun ρ1 => (fun xs ρ Q => xs = [] ∧ Q ρ) r ρ1 Q | [] => False) r ρ1 Q | [] => False))
 (b__law_picture_c3l1 A me))
 (b__law_picture_c3t1 A me))
 sNext)
 (b__law_picture_t5 A me))
def b__law_picture_t3 (A : Ad) (me : S3) : T3S := (sSeq (sAsg (eC (.int 0)) (gN 3))
 (b__law_picture_t4 A me))
def b__law_picture_t2 (A : Ad) (me : S3) : T3S := (sSeq (sAsgO (oLst aNil) 2)
 (b__law_picture_t3 A me))
def b__law_picture_t1 (A : Ad) (me : S3) : T3S := (sSeq (sAsg (eShr (oLc (iS (eOp oIdx (eVar 0) (eC (.int 2)))) (gN 8) fYes (eCall [.shr] me (aCons (eVar 8) aNil)) [8])) (gN 1))
 (b__law_picture_t2 A me))
def b__law_picture (A : Ad) (me : S3) : T3S := (sSeq (sIf (fTst (eOp (oEq false) (eCB cLen (aCons (eOp oIdx (eVar 0) (eC (.int 2))) aNil)) (eC (.int 0))))
 (sSeq (sIf (fOr (fTst (eOp (oEq false) (eOp oIdx (eVar 0) (eC (.int 1))) (eC (.str "row")))) (fTst (eOp (oEq false) (eOp oIdx (eVar 0) (eC (.int 1))) (eC (.str "col")))))
 (sRet (eTup (aCons (eC (.int 0)) (aCons (eLst aNil) aNil))))
 sNext)
 (b__law_picture_c1t1 A me))
 sNext)
 (b__law_picture_t1 A me))
theorem T.ht_kid {t c : T} (h : c ∈ t.ks) : c.ht < t.ht := by
  have go : ∀ ts : List T, c ∈ ts → c.ht ≤ T.hts ts := by
    intro ts
    induction ts with
    | nil => intro h; cases h
    | cons a ts ih =>
      intro h
      simp only [T.hts]
      rcases List.mem_cons.mp h with rfl | h
      · omega
      · have := ih h; omega
  cases t with
  | nd m l ks =>
    have := go ks h
    simp only [T.ht]; omega
theorem T.ht_pos (t : T) : 0 < t.ht := by cases t; simp only [T.ht]; omega
theorem maxW_mem : ∀ {ts : List T} {c : T}, c ∈ ts → c.sz.1 ≤ maxW (ts.map T.sz)
  | a :: ts, c, hc => by
    rw [List.map_cons]
    simp only [maxW]
    rcases List.mem_cons.mp hc with rfl | hc
    · omega
    · have := maxW_mem hc; omega
theorem z__law_picture : ∀ ds QR QO, ¬ sp__law_picture' 0 ds QR QO := by
  rintro ds QR QO ⟨t, _, h, _⟩
  have := t.ht_pos
  omega
theorem t__law_picture (A : Ad) (n : Nat) : ∀ ds QR QO, sp__law_picture' (n + 1) ds QR QO → ds.length = 1 → b__law_picture A (sp__law_picture' n) (endE [.shr] ds QR QO) (startE 8 [.shr] ds) := by
  rintro ds QR QO ⟨t, rfl, hht, hlen, hg, h⟩ _
  have hl : gd 20 t.l := hg t (self_pre t)
  have hsz := T.sz_le t hg
  have hkid : ∀ c ∈ t.ks, c.ht ≤ n ∧ c.pre.length ≤ 40 ∧ ∀ q ∈ c.pre, gd 20 q.l := by
    intro c hc
    have h1 := T.ht_kid hc
    have h2 := pre_len_le (kid_pre hc c (self_pre c))
    exact ⟨by omega, by omega, fun q hq => hg q (kid_pre hc q hq)⟩
  have hkl : t.ks.length ≤ 40 := by
    have := pres_ge t.ks
    rw [T.pre_eq, List.length_cons] at hlen
    omega
  cases t with
  | nd m l ks =>
  rw [T.d_eq] at h ⊢
  simp only [T.m, T.l, T.ks] at h hl hkid hkl ⊢
  cases ks with
  | nil =>
    have zero : isRC l = true → QR (.tup [.int 0, .lst []]) [.tup [.str m, .str l, .tup []]] := by
      intro hc
      have e : picD (.nd m l []) = .tup [.int 0, .lst []] := by simp [picD, T.sz, T.pic, meas, T.szs, hc, linesD]
      rw [← e]; exact h
    have leaf : isRC l = false → b__law_picture_c1t1 A (sp__law_picture' n) (endE [.shr] [.tup [.str m, .str l, .tup []]] QR QO) [.shr (.tup [.str m, .str l, .tup []]), .emp, .emp, .emp, .emp, .emp, .emp, .emp, .emp] := by
      intro hc
      have e : picD (.nd m l []) = .tup [.int (l.length : Nat), .lst [.lst ((List.replicate l.length m).map D.str)]] := by simp [picD, T.sz, T.pic, meas, T.szs, hc, linesD]
      have h2 : QR (.tup [.int (l.length : Nat), .lst [.lst ((List.replicate l.length m).map D.str)]]) [.tup [.str m, .str l, .tup []]] := by rw [← e]; exact h
      have hs := gd_sl hl (by decide)
      have h20 := hl.1
      rw [← rep_str] at h2
      exact ⟨hs, sz _ rfl, hs, ⟨by omega, by omega, by rw [sizeLine_eq]; show 1 * _ ≤ _; omega⟩, sz _ rfl, sz _ rfl, h2⟩
    refine ⟨rfl, rfl, hl.shp, sRow, ifs (fun z => ?_) fun z => ?_⟩
    · exact ⟨sz _ rfl, sz _ rfl, zero (by unfold isRC isRow; rw [show D.eqv (.str l) (.str "row") = true from z]; rfl)⟩
    · have z : isRow l = false := by cases h : isRow l with
        | false => rfl
        | true => exact absurd h z
      refine ⟨hl.shp, sCol, ifs (fun z2 => ?_) fun z2 => ?_⟩
      · exact ⟨sz _ rfl, sz _ rfl, zero (by unfold isRC; rw [show D.eqv (.str l) (.str "col") = true from z2, Bool.or_true])⟩
      · refine leaf ?_
        unfold isRC
        rw [z]
        cases h : D.eqv (.str l) (.str "col") with
        | false => rfl
        | true => exact absurd h z2
  | cons k ks =>
  have hne : (k :: ks).isEmpty = false := rfl
  have hne2 : (T.szs (k :: ks)).isEmpty = false := rfl
  have hsz1 : (T.sz (.nd m l (k :: ks))) = meas l (T.szs (k :: ks)) := by simp only [T.sz]
  have hpic : picD (.nd m l (k :: ks)) = if isRow l = true then .tup [.int (sumW (T.szs (k :: ks)) : Nat), .lst (linesD ((List.range (maxH (T.szs (k :: ks)))).map fun y => T.rowL m (k :: ks) y))] else .tup [.int (maxW (T.szs (k :: ks)) : Nat), .lst (linesD (T.colL m (maxW (T.szs (k :: ks))) (k :: ks)))] := by
    unfold picD
    rw [hsz1]
    simp only [T.pic, meas, hne, hne2, Bool.false_eq_true, if_false]
    cases isRow l <;> simp
  have hb := T.szs_le (k :: ks) fun q hq => hg q (by rw [T.pre_eq]; exact List.mem_cons_of_mem _ hq)
  have hpl : (T.pres (k :: ks)).length ≤ 40 := by
    rw [T.pre_eq, List.length_cons] at hlen
    have : (T.pres (T.nd m l (k :: ks)).ks).length = (T.pres (k :: ks)).length := rfl
    omega
  have hk0 : (((k :: ks).length : Nat) : Int) ≠ 0 := by simp only [List.length_cons]; omega
  rw [hpic] at h
  rw [szs_map] at h hb
  generalize k :: ks = ts at h hb hkid hkl hpl hk0 ⊢
  have hnl : ∀ c ∈ ts, c.pic.length = c.sz.2 ∧ c.sz.1 ≤ 800 := fun c hc => ⟨(T.pic_dim c).1, by have := T.sz_le c (hkid c hc).2.2; have := (hkid c hc).2.1; omega⟩
  refine ⟨rfl, rfl, ife (fun q => hk0 (by have q : D.eqv (.int ((ts.map T.d).length : Nat)) (.int 0) = true := q; rw [eqi, List.length_map] at q; exact q)) ?_⟩
  show b__law_picture_t1 A (sp__law_picture' n) _ [.shr (.tup [.str m, .str l, .tup (ts.map T.d)]), .emp, .emp, .emp, .emp, .emp, .emp, .emp, .emp]
  refine lc_of (ρ := [.shr (.tup [.str m, .str l, .tup (ts.map T.d)]), .emp, .emp, .emp, .emp, .emp, .emp, .emp, .emp]) ts T.d (fun c => some (picD c)) rfl rfl (by rw [sizeLine_eq]; omega) (fun c hc acc N hl hN => ?_) ⟨trivial, rfl, ?_⟩
  · obtain ⟨h1, h2, h3⟩ := hkid c hc
    exact ⟨rfl, rfl, c, rfl, h1, h2, h3, hl, hN⟩
  rw [fm_all]
  show b__law_picture_t2 A (sp__law_picture' n) _ [.shr (.tup [.str m, .str l, .tup (ts.map T.d)]), .shr (.lst (ts.map picD)), .emp, .emp, .emp, .emp, .emp, .emp, .emp]
  refine ⟨sz _ rfl, rfl, ?_⟩
  show b__law_picture_t3 A (sp__law_picture' n) _ [.shr (.tup [.str m, .str l, .tup (ts.map T.d)]), .shr (.lst (ts.map picD)), .own (.lst []), .emp, .emp, .emp, .emp, .emp, .emp]
  refine ⟨rfl, ?_⟩
  show b__law_picture_t4 A (sp__law_picture' n) _ [.shr (.tup [.str m, .str l, .tup (ts.map T.d)]), .shr (.lst (ts.map picD)), .own (.lst []), .shr (.int 0), .emp, .emp, .emp, .emp, .emp]
  refine ⟨hl.shp, sRow, ifs (fun z => ?_) fun z => ?_⟩
  · have z : isRow l = true := z
    rw [if_pos z] at h
    refine for_inv (fun i ρ => ∃ (s4 s5 : Sl), free s4 ∧ free s5 ∧ ρ = [.shr (.tup [.str m, .str l, .tup (ts.map T.d)]), .shr (.lst (ts.map picD)), .own (.lst []), .shr (.int (maxH ((ts.map T.sz).take i) : Nat)), s4, s5, .emp, .emp, .emp]) _ ?_ ?_ ⟨.emp, .emp, .inl rfl, .inl rfl, rfl⟩
    · rintro i d ρ N hd ⟨s4, s5, u4, u5, rfl⟩ hN
      rw [List.getElem?_map] at hd
      obtain ⟨c, hc, rfl⟩ := Option.map_eq_some_iff.mp hd
      obtain ⟨_, _, _, e4⟩ := sum_take (ss := ts.map T.sz) (i := i) (s := c.sz) (by rw [List.getElem?_map, hc]; rfl)
      have hp := (hnl c (List.mem_of_getElem? hc)).1
      refine ⟨rfl, u4.un, u5.un, rfl, ?_⟩
      show b__law_picture_c3l1 A (sp__law_picture' n) _ [.shr (.tup [.str m, .str l, .tup (ts.map T.d)]), .shr (.lst (ts.map picD)), .own (.lst []), .shr (.int (maxH ((ts.map T.sz).take i) : Nat)), .shr (.int (c.sz.1 : Nat)), .shr (.lst (linesD c.pic)), .emp, .emp, .emp]
      refine ifs (fun z2 => ?_) fun z2 => ?_
      · have z2 : ((maxH ((ts.map T.sz).take i) : Nat) : Int) < ((linesD c.pic).length : Nat) := of_decide_eq_true z2
        rw [linesD_len, hp] at z2
        refine ⟨rfl, hN _ ⟨.shr (.int (c.sz.1 : Nat)), .shr (.lst (linesD c.pic)), .inr ⟨_, rfl⟩, .inr ⟨_, rfl⟩, ?_⟩⟩
        rw [e4, show max (maxH ((ts.map T.sz).take i)) c.sz.2 = (linesD c.pic).length by rw [linesD_len, hp]; omega]; rfl
      · have z2 : ¬ ((maxH ((ts.map T.sz).take i) : Nat) : Int) < ((linesD c.pic).length : Nat) := fun q => z2 (decide_eq_true q)
        rw [linesD_len, hp] at z2
        refine hN _ ⟨.shr (.int (c.sz.1 : Nat)), .shr (.lst (linesD c.pic)), .inr ⟨_, rfl⟩, .inr ⟨_, rfl⟩, ?_⟩
        rw [e4, show max (maxH ((ts.map T.sz).take i)) c.sz.2 = maxH ((ts.map T.sz).take i) by omega]
    rintro ρ ⟨s4, s5, u4, u5, rfl⟩
    rw [List.length_map, show (ts.map T.sz).take ts.length = ts.map T.sz by rw [← List.length_map (as := ts) (f := T.sz), List.take_length]]
    refine ⟨trivial, ?_⟩
    show b__law_picture_c3t1 A (sp__law_picture' n) _ [.shr (.tup [.str m, .str l, .tup (ts.map T.d)]), .shr (.lst (ts.map picD)), .own (.lst []), .shr (.int (maxH (ts.map T.sz) : Nat)), s4, s5, .emp, .emp, .emp]
    have hmx : maxH (ts.map T.sz) ≤ 40 := by omega
    generalize hmxe : maxH (ts.map T.sz) = mx at h hmx ⊢
    refine ⟨⟨by omega, by omega⟩, ?_⟩
    show forL (gN 6) (b__law_picture_c3l2 A _) _ (rngD 0 1 ((mx : Nat) : Int).toNat) [.shr (.tup [.str m, .str l, .tup (ts.map T.d)]), .shr (.lst (ts.map picD)), .own (.lst []), .shr (.int (mx : Nat)), s4, s5, .emp, .emp, .emp]
    refine for_inv (fun i ρ => ∃ (s4 s5 s6 s7 : Sl), free s4 ∧ free s5 ∧ free s6 ∧ free s7 ∧ i ≤ mx ∧ ρ = [.shr (.tup [.str m, .str l, .tup (ts.map T.d)]), .shr (.lst (ts.map picD)), .own (.lst (linesD ((List.range i).map fun y => T.rowL m ts y))), .shr (.int (mx : Nat)), s4, s5, s6, s7, .emp]) _ ?_ ?_ ⟨s4, s5, .emp, .emp, u4, u5, .inl rfl, .inl rfl, Nat.zero_le _, rfl⟩
    · rintro i d ρ N hd ⟨s4, s5, s6, s7, u4, u5, u6, u7, him, rfl⟩ hN
      obtain ⟨hr, rfl⟩ := rngD_get hd
      rw [Int.toNat_natCast] at hr
      rw [show (0 : Int) + (i : Nat) * 1 = (i : Nat) by omega]
      refine ⟨u6.un, ?_⟩
      generalize hln : linesD ((List.range i).map fun y => T.rowL m ts y) = ln at *
      have hll : ln.length = i := by rw [← hln, linesD_len, List.length_map, List.length_range]
      show b__law_picture_c3l2 A (sp__law_picture' n) _ [.shr (.tup [.str m, .str l, .tup (ts.map T.d)]), .shr (.lst (ts.map picD)), .own (.lst ln), .shr (.int (mx : Nat)), s4, s5, .shr (.int (i : Nat)), s7, .emp]
      refine ⟨sz _ rfl, u7.un, ?_⟩
      show b__law_picture_c3l2t1 A (sp__law_picture' n) _ [.shr (.tup [.str m, .str l, .tup (ts.map T.d)]), .shr (.lst (ts.map picD)), .own (.lst ln), .shr (.int (mx : Nat)), s4, s5, .shr (.int (i : Nat)), .own (.lst []), .emp]
      refine for_inv (fun j ρ => ∃ (s4 s5 : Sl), free s4 ∧ free s5 ∧ ρ = [.shr (.tup [.str m, .str l, .tup (ts.map T.d)]), .shr (.lst (ts.map picD)), .own (.lst ln), .shr (.int (mx : Nat)), s4, s5, .shr (.int (i : Nat)), .own (.lst ((T.rowL m (ts.take j) i).map D.str)), .emp]) _ ?_ ?_ ⟨s4, s5, u4, u5, rfl⟩
      · rintro j d ρ N2 hd ⟨s4, s5, u4, u5, rfl⟩ hN2
        rw [List.getElem?_map] at hd
        obtain ⟨c, hc, rfl⟩ := Option.map_eq_some_iff.mp hd
        obtain ⟨hp, hw⟩ := hnl c (List.mem_of_getElem? hc)
        have e1 : T.rowL m (ts.take (j + 1)) i = T.rowL m (ts.take j) i ++ (c.pic[i]?).getD (List.replicate c.sz.1 m) := by
          rw [take_snoc hc, rowL_app]; simp [T.rowL]
        have hrl : ((T.rowL m (ts.take j) i).map D.str).length ≤ 800 := by
          rw [List.length_map, T.rowL_len, szs_map]
          have : ∀ (l1 l2 : List (Nat × Nat)), sumW l1 ≤ sumW (l1 ++ l2) := by
            intro l1 l2
            induction l1 with
            | nil => exact Nat.zero_le _
            | cons a l1 ih => simp only [List.cons_append, sumW]; omega
          have := this ((ts.take j).map T.sz) ((ts.drop j).map T.sz)
          rw [← List.map_append, List.take_append_drop] at this
          omega
        refine ⟨rfl, u4.un, u5.un, rfl, ?_⟩
        show b__law_picture_c3l2l3 A (sp__law_picture' n) _ [.shr (.tup [.str m, .str l, .tup (ts.map T.d)]), .shr (.lst (ts.map picD)), .own (.lst ln), .shr (.int (mx : Nat)), .shr (.int (c.sz.1 : Nat)), .shr (.lst (linesD c.pic)), .shr (.int (i : Nat)), .own (.lst ((T.rowL m (ts.take j) i).map D.str)), .emp]
        refine ⟨rfl, ifs (fun z2 => ?_) fun z2 => ?_⟩
        · have z2 : ((i : Nat) : Int) < ((linesD c.pic).length : Nat) := of_decide_eq_true z2
          rw [linesD_len] at z2
          have hi : i < c.pic.length := by omega
          have hg := List.getElem?_eq_getElem hi
          have hwl := (T.pic_dim c).2 _ (List.getElem_mem hi)
          generalize c.pic[i] = line at hg hwl
          refine wo_in (atI_nat (linesD_get hg)) ⟨by rw [List.length_map (f := D.str) (as := line), sizeLine_eq]; omega, hN2 _ ⟨.shr (.int (c.sz.1 : Nat)), .shr (.lst (linesD c.pic)), .inr ⟨_, rfl⟩, .inr ⟨_, rfl⟩, ?_⟩⟩
          rw [e1, hg, List.map_append]; rfl
        · have z2 : ¬ ((i : Nat) : Int) < ((linesD c.pic).length : Nat) := fun q => z2 (decide_eq_true q)
          rw [linesD_len] at z2
          have hg : c.pic[i]? = none := List.getElem?_eq_none (by omega)
          refine ⟨sz _ rfl, ⟨by omega, by omega, by rw [sizeLine_eq]; show 1 * _ ≤ _; omega⟩, ?_⟩
          show _ ∧ N2 [.shr (.tup [.str m, .str l, .tup (ts.map T.d)]), .shr (.lst (ts.map picD)), .own (.lst ln), .shr (.int (mx : Nat)), .shr (.int (c.sz.1 : Nat)), .shr (.lst (linesD c.pic)), .shr (.int (i : Nat)), .own (.lst ((T.rowL m (ts.take j) i).map D.str ++ (List.replicate ((c.sz.1 : Nat) : Int).toNat [D.str m]).flatten)), .emp]
          rw [rep_str, Int.toNat_natCast]
          refine ⟨by rw [List.length_map (f := D.str) (as := List.replicate c.sz.1 m), List.length_replicate, sizeLine_eq]; omega, hN2 _ ⟨.shr (.int (c.sz.1 : Nat)), .shr (.lst (linesD c.pic)), .inr ⟨_, rfl⟩, .inr ⟨_, rfl⟩, ?_⟩⟩
          rw [e1, hg, List.map_append]; rfl
      · rintro ρ ⟨s4, s5, u4, u5, rfl⟩
        rw [List.length_map, List.take_length]
        refine ⟨trivial, ?_⟩
        show b__law_picture_c3l2t2 A (sp__law_picture' n) _ [.shr (.tup [.str m, .str l, .tup (ts.map T.d)]), .shr (.lst (ts.map picD)), .own (.lst ln), .shr (.int (mx : Nat)), s4, s5, .shr (.int (i : Nat)), .own (.lst ((T.rowL m ts i).map D.str)), .emp]
        refine ⟨rfl, by rw [hll, sizeLine_eq]; omega, hN _ ⟨s4, s5, .shr (.int (i : Nat)), .shr (.lst ((T.rowL m ts i).map D.str)), u4, u5, .inr ⟨_, rfl⟩, .inr ⟨_, rfl⟩, hr, ?_⟩⟩
        rw [List.range_succ, List.map_append]
        unfold linesD at hln ⊢
        rw [List.map_append, hln]; rfl
    · rintro ρ ⟨s4, s5, s6, s7, u4, u5, u6, u7, him, rfl⟩
      rw [rngD_len, Int.toNat_natCast]
      refine ⟨trivial, ?_⟩
      generalize linesD ((List.range mx).map fun y => T.rowL m ts y) = ln at *
      show b__law_picture_c3t2 A (sp__law_picture' n) _ [.shr (.tup [.str m, .str l, .tup (ts.map T.d)]), .shr (.lst (ts.map picD)), .own (.lst ln), .shr (.int (mx : Nat)), s4, s5, s6, s7, .emp]
      refine lc_of (ρ := [.shr (.tup [.str m, .str l, .tup (ts.map T.d)]), .shr (.lst (ts.map picD)), .shr (.lst ln), .shr (.int (mx : Nat)), s4, s5, s6, s7, .emp]) ts picD (fun c => some (.int (c.sz.1 : Nat))) rfl (by rcases u4 with rfl | ⟨_, rfl⟩ <;> rcases u5 with rfl | ⟨_, rfl⟩ <;> rfl) (by rw [sizeLine_eq]; omega) (fun c hc acc N hl hN => ?_) ⟨trivial, ?_⟩
      · exact ⟨rfl, rfl, rfl, rfl, hl, hN⟩
      rw [fm_all]
      refine wo_in (ints_map (fun c : T => ((c.sz.1 : Nat) : Int)) ts) ?_
      rw [sum_szs]
      exact ⟨sz _ rfl, h⟩
  · have z : isRow l = false := by cases h : isRow l with
      | false => rfl
      | true => exact absurd h z
    rw [if_neg (by rw [z]; exact Bool.false_ne_true)] at h
    show b__law_picture_t5 A (sp__law_picture' n) _ [.shr (.tup [.str m, .str l, .tup (ts.map T.d)]), .shr (.lst (ts.map picD)), .own (.lst []), .shr (.int 0), .emp, .emp, .emp, .emp, .emp]
    refine for_inv (fun i ρ => ∃ (s4 s5 : Sl), free s4 ∧ free s5 ∧ ρ = [.shr (.tup [.str m, .str l, .tup (ts.map T.d)]), .shr (.lst (ts.map picD)), .own (.lst []), .shr (.int (maxW ((ts.map T.sz).take i) : Nat)), s4, s5, .emp, .emp, .emp]) _ ?_ ?_ ⟨.emp, .emp, .inl rfl, .inl rfl, rfl⟩
    · rintro i d ρ N hd ⟨s4, s5, u4, u5, rfl⟩ hN
      rw [List.getElem?_map] at hd
      obtain ⟨c, hc, rfl⟩ := Option.map_eq_some_iff.mp hd
      obtain ⟨_, _, e3, _⟩ := sum_take (ss := ts.map T.sz) (i := i) (s := c.sz) (by rw [List.getElem?_map, hc]; rfl)
      refine ⟨rfl, u4.un, u5.un, rfl, ?_⟩
      show b__law_picture_l4 A (sp__law_picture' n) _ [.shr (.tup [.str m, .str l, .tup (ts.map T.d)]), .shr (.lst (ts.map picD)), .own (.lst []), .shr (.int (maxW ((ts.map T.sz).take i) : Nat)), .shr (.int (c.sz.1 : Nat)), .shr (.lst (linesD c.pic)), .emp, .emp, .emp]
      refine ifs (fun z2 => ?_) fun z2 => ?_
      · have z2 : ((maxW ((ts.map T.sz).take i) : Nat) : Int) < (c.sz.1 : Nat) := of_decide_eq_true z2
        refine ⟨rfl, hN _ ⟨.shr (.int (c.sz.1 : Nat)), .shr (.lst (linesD c.pic)), .inr ⟨_, rfl⟩, .inr ⟨_, rfl⟩, ?_⟩⟩
        rw [e3, show max (maxW ((ts.map T.sz).take i)) c.sz.1 = c.sz.1 by omega]; rfl
      · have z2 : ¬ ((maxW ((ts.map T.sz).take i) : Nat) : Int) < (c.sz.1 : Nat) := fun q => z2 (decide_eq_true q)
        refine hN _ ⟨.shr (.int (c.sz.1 : Nat)), .shr (.lst (linesD c.pic)), .inr ⟨_, rfl⟩, .inr ⟨_, rfl⟩, ?_⟩
        rw [e3, show max (maxW ((ts.map T.sz).take i)) c.sz.1 = maxW ((ts.map T.sz).take i) by omega]
    rintro ρ ⟨s4, s5, u4, u5, rfl⟩
    rw [List.length_map, show (ts.map T.sz).take ts.length = ts.map T.sz by rw [← List.length_map (as := ts) (f := T.sz), List.take_length]]
    refine ⟨trivial, ?_⟩
    show b__law_picture_t6 A (sp__law_picture' n) _ [.shr (.tup [.str m, .str l, .tup (ts.map T.d)]), .shr (.lst (ts.map picD)), .own (.lst []), .shr (.int (maxW (ts.map T.sz) : Nat)), s4, s5, .emp, .emp, .emp]
    have hmx : maxW (ts.map T.sz) ≤ 800 := by omega
    have hle : ∀ c ∈ ts, c.sz.1 ≤ maxW (ts.map T.sz) := fun c hc => maxW_mem hc
    have hsh : ∀ j, (T.colL m (maxW (ts.map T.sz)) (ts.take j)).length ≤ 40 := by
      intro j
      have h1 := T.colL_dim m (maxW (ts.map T.sz)) ts (by rw [szs_map]; exact Nat.le_refl _)
      have h2 : (T.colL m (maxW (ts.map T.sz)) ts).length = (T.colL m (maxW (ts.map T.sz)) (ts.take j)).length + (T.colL m (maxW (ts.map T.sz)) (ts.drop j)).length := by
        rw [← List.length_append, ← colL_app, List.take_append_drop]
      rw [h1.1, szs_map] at h2
      omega
    generalize maxW (ts.map T.sz) = mx at h hmx hle hsh ⊢
    refine for_inv (fun i ρ => ∃ (s4 s5 : Sl), free s4 ∧ free s5 ∧ ρ = [.shr (.tup [.str m, .str l, .tup (ts.map T.d)]), .shr (.lst (ts.map picD)), .own (.lst (linesD (T.colL m mx (ts.take i)))), .shr (.int (mx : Nat)), s4, s5, .emp, .emp, .emp]) _ ?_ ?_ ⟨s4, s5, u4, u5, rfl⟩
    · rintro i d ρ N hd ⟨s4, s5, u4, u5, rfl⟩ hN
      rw [List.getElem?_map] at hd
      obtain ⟨c, hc, rfl⟩ := Option.map_eq_some_iff.mp hd
      have hcm := List.mem_of_getElem? hc
      have e1 : T.colL m mx (ts.take (i + 1)) = T.colL m mx (ts.take i) ++ c.pic.map (fun line => line ++ List.replicate (mx - c.sz.1) m) := by
        rw [take_snoc hc, colL_app]; simp [T.colL]
      have h40 := hsh i
      have h40' := hsh (i + 1)
      rw [e1, List.length_append, List.length_map] at h40'
      have hcw := hle c hcm
      refine ⟨rfl, u4.un, u5.un, rfl, ?_⟩
      show b__law_picture_l5 A (sp__law_picture' n) _ [.shr (.tup [.str m, .str l, .tup (ts.map T.d)]), .shr (.lst (ts.map picD)), .own (.lst (linesD (T.colL m mx (ts.take i)))), .shr (.int (mx : Nat)), .shr (.int (c.sz.1 : Nat)), .shr (.lst (linesD c.pic)), .emp, .emp, .emp]
      refine ⟨rfl, ?_⟩
      refine lc_of (ρ := [.shr (.tup [.str m, .str l, .tup (ts.map T.d)]), .shr (.lst (ts.map picD)), .own (.lst (linesD (T.colL m mx (ts.take i)))), .shr (.int (mx : Nat)), .shr (.int (c.sz.1 : Nat)), .shr (.lst (linesD c.pic)), .emp, .emp, .emp]) c.pic (fun line => .lst (line.map D.str)) (fun line => some (.lst ((line ++ List.replicate (mx - c.sz.1) m).map D.str))) rfl rfl (by rw [sizeLine_eq]; omega) (fun line hline acc N hl hN => ?_) ⟨trivial, ?_⟩
      · have hwl := (T.pic_dim c).2 line hline
        have e2 : ((mx : Nat) : Int) - (c.sz.1 : Nat) = ((mx - c.sz.1 : Nat) : Int) := by omega
        refine ⟨rfl, sz _ rfl, ⟨by omega, by omega, by rw [sizeLine_eq]; show 1 * _ ≤ _; omega⟩, ?_⟩
        rw [e2, Int.toNat_natCast]
        have e3 : (List.replicate (mx - c.sz.1) [D.str m]).flatten = (List.replicate (mx - c.sz.1) m).map D.str := rep_str m _
        rw [e3]
        refine ⟨by rw [List.length_map, List.length_map, List.length_replicate, sizeLine_eq]; omega, hl, ?_⟩
        rw [← List.map_append]
        exact hN
      rw [fm_all]
      have e2 : c.pic.map (fun line => D.lst ((line ++ List.replicate (mx - c.sz.1) m).map D.str)) = linesD (c.pic.map fun line => line ++ List.replicate (mx - c.sz.1) m) := by unfold linesD; rw [List.map_map]; rfl
      rw [e2]
      refine ⟨by rw [linesD_len, linesD_len, List.length_map, sizeLine_eq]; omega, hN _ ⟨.shr (.int (c.sz.1 : Nat)), .shr (.lst (linesD c.pic)), .inr ⟨_, rfl⟩, .inr ⟨_, rfl⟩, ?_⟩⟩
      rw [e1]
      unfold linesD
      rw [List.map_append]; rfl
    · rintro ρ ⟨s4, s5, u4, u5, rfl⟩
      rw [List.length_map, List.take_length]
      exact ⟨trivial, sz _ rfl, h⟩

end K18
end L3

set_option Elab.async false
set_option linter.all false
set_option maxRecDepth 100000
set_option autoImplicit false
set_option maxHeartbeats 0
namespace L3
namespace K18
open PySem PySem.Spec L2
open PyProof.Rows (b2i)
/-! ### the lines of the tree -/
def lnD (L : List (Str × List Str)) : List (Key × D) := L.map fun p => (.inr p.1, .lst (p.2.map D.str))
mutual
theorem T.lns_keys : ∀ (t : T) (ab : List Str), (t.lns ab).map (·.1) = t.pre.map T.m
  | .nd m l ks, ab => by simp [T.lns, T.pre, T.m, T.lnss_keys ks]
theorem T.lnss_keys : ∀ (ts : List T) (ab : List Str), (T.lnss ts ab).map (·.1) = (T.pres ts).map T.m
  | [], ab => by simp [T.lnss, T.pres]
  | t :: ts, ab => by simp [T.lnss, T.pres, T.lns_keys t, T.lnss_keys ts]
end
theorem lnss_app (ts us : List T) (ab : List Str) : T.lnss (ts ++ us) ab = T.lnss ts ab ++ T.lnss us ab := by
  induction ts with
  | nil => simp [T.lnss]
  | cons t ts ih => simp [T.lnss, ih]
theorem T.lns_eq (t : T) (ab : List Str) : t.lns ab = (t.m, ab ++ [t.m]) :: T.lnss t.ks (ab ++ [t.m]) := by cases t; simp [T.lns, T.m, T.ks]
theorem getD_app {a b : List (Key × D)} {k : Key} (h : ∀ p ∈ a, p.1 ≠ k) : getD' (a ++ b) k = getD' b k := by
  unfold getD'
  rw [List.find?_append, List.find?_eq_none.mpr fun p hp e => h p hp (of_decide_eq_true e)]; rfl
theorem getD_head {b : List (Key × D)} {k : Key} {d : D} : getD' ((k, d) :: b) k = some d := by simp [getD', List.find?_cons]
def sp__law_lines_of' (n : Nat) : S3 := fun ds QR _ => ∃ (t : T) (ab : List Str) (kvs : List (Key × D)), ds = [t.d, .lst (ab.map D.str), .dic kvs] ∧ (t.ht ≤ n ∧ kvs.length + t.pre.length ≤ 100 ∧ ab.length + n ≤ 20) ∧ (∀ p ∈ kvs, ∀ q ∈ t.pre, p.1 ≠ .inr q.m) ∧ (t.pre.map T.m).Nodup ∧ ∀ r, QR r [t.d, .lst (ab.map D.str), .dic (kvs ++ lnD (t.lns ab))]
def sp__law_lines_of (A : Ad) : S3 := sp__law_lines_of' 6
def b__law_lines_of_l1 (A : Ad) (me : S3) : T3S := (sDrop (eCall [.shr, .shr, .par] me (aCons (eVar 3) (aCons (eDGet (eVar 2) (eOp oIdx (eVar 0) (eC (.int 0)))) (aCons (eVar 2) aNil)))))
def b__law_lines_of_t1 (A : Ad) (me : S3) : T3S := (sFor (iS (eOp oIdx (eVar 0) (eC (.int 2)))) (gN 3)
 (b__law_lines_of_l1 A me))
def b__law_lines_of (A : Ad) (me : S3) : T3S := (sSeq (sDPutD (eOp oAdd (eVar 1) (eLst (aCons (eOp oIdx (eVar 0) (eC (.int 0))) aNil))) (eVar 2) (eOp oIdx (eVar 0) (eC (.int 0))))
 (b__law_lines_of_t1 A me))
theorem z__law_lines_of : ∀ ds QR QO, ¬ sp__law_lines_of' 0 ds QR QO := by
  rintro ds QR QO ⟨t, _, _, _, h, _⟩
  have := t.ht_pos
  omega
theorem lnD_len (L : List (Str × List Str)) : (lnD L).length = L.length := by unfold lnD; rw [List.length_map]
theorem lnss_len (ts : List T) (ab : List Str) : (T.lnss ts ab).length = (T.pres ts).length := by
  have := congrArg List.length (T.lnss_keys ts ab)
  rwa [List.length_map, List.length_map] at this
theorem t__law_lines_of (A : Ad) (n : Nat) : ∀ ds QR QO, sp__law_lines_of' (n + 1) ds QR QO → ds.length = 3 → b__law_lines_of A (sp__law_lines_of' n) (endE [.shr, .shr, .par] ds QR QO) (startE 1 [.shr, .shr, .par] ds) := by
  rintro ds QR QO ⟨t, ab, kvs, rfl, ⟨hht, hlen, hab⟩, hnew, hnd, h⟩ _
  have hk : ∀ p ∈ kvs, p.1 ≠ .inr t.m := fun p hp => hnew p hp t (self_pre t)
  have hpe : t.pre.length = 1 + (T.pres t.ks).length := by rw [T.pre_eq, List.length_cons]; omega
  rw [T.lns_eq] at h
  have hkid : ∀ c ∈ t.ks, c.ht ≤ n := fun c hc => by have := T.ht_kid hc; omega
  have hkd := T.d_eq t
  have start : b__law_lines_of_t1 A (sp__law_lines_of' n) (endE [.shr, .shr, .par] [t.d, .lst (ab.map D.str), .dic kvs] QR QO) [.shr t.d, .shr (.lst (ab.map D.str)), .par (.dic (putD kvs (.inr t.m) (.lst (ab.map D.str ++ [.str t.m])))), .emp] →
      b__law_lines_of A (sp__law_lines_of' n) (endE [.shr, .shr, .par] [t.d, .lst (ab.map D.str), .dic kvs] QR QO) [.shr t.d, .shr (.lst (ab.map D.str)), .par (.dic kvs), .emp] := by
    rw [hkd]
    intro q
    exact ⟨sz _ rfl, by rw [List.length_map, sizeLine_eq]; show ab.length + 1 ≤ _; omega, by rw [sizeLine_eq]; omega, q⟩
  refine start ?_
  have e0 : ab.map D.str ++ [.str t.m] = (ab ++ [t.m]).map D.str := by rw [List.map_append]; rfl
  rw [putD_new hk, e0]
  have loop : forL (gN 3) (b__law_lines_of_l1 A (sp__law_lines_of' n)) (E3.under (endE [.shr, .shr, .par] [t.d, .lst (ab.map D.str), .dic kvs] QR QO) [.shr t.d, .shr (.lst (ab.map D.str)), .par (.dic (kvs ++ [(.inr t.m, .lst ((ab ++ [t.m]).map D.str))])), .emp] (.val (.tup (t.ks.map T.d)))) (t.ks.map T.d) [.shr t.d, .shr (.lst (ab.map D.str)), .par (.dic (kvs ++ [(.inr t.m, .lst ((ab ++ [t.m]).map D.str))])), .emp] →
      b__law_lines_of_t1 A (sp__law_lines_of' n) (endE [.shr, .shr, .par] [t.d, .lst (ab.map D.str), .dic kvs] QR QO) [.shr t.d, .shr (.lst (ab.map D.str)), .par (.dic (kvs ++ [(.inr t.m, .lst ((ab ++ [t.m]).map D.str))])), .emp] := by
    rw [hkd]
    exact fun q => q
  refine loop ?_
  have hnk : ∀ q ∈ T.pres t.ks, q.m ≠ t.m := by
    intro q hq e
    rw [T.pre_eq, List.map_cons, List.nodup_cons] at hnd
    exact hnd.1 (e ▸ List.mem_map_of_mem hq)
  have hnd2 : ((T.pres t.ks).map T.m).Nodup := by
    rw [T.pre_eq, List.map_cons, List.nodup_cons] at hnd
    exact hnd.2
  refine for_inv (fun i ρ => ∃ (s3 : Sl), free s3 ∧ ρ = [.shr t.d, .shr (.lst (ab.map D.str)), .par (.dic (kvs ++ [(.inr t.m, .lst ((ab ++ [t.m]).map D.str))] ++ lnD (T.lnss (t.ks.take i) (ab ++ [t.m])))), s3]) _ ?_ ?_ ⟨.emp, .inl rfl, by simp [T.lnss, lnD]⟩
  · rintro i d ρ N hd ⟨s3, u3, rfl⟩ hN
    rw [List.getElem?_map] at hd
    obtain ⟨c, hc, rfl⟩ := Option.map_eq_some_iff.mp hd
    have hcm := List.mem_of_getElem? hc
    have hil : i < t.ks.length := (List.getElem?_eq_some_iff.mp hc).1
    refine ⟨u3.un, ?_⟩
    have eg : getD' (kvs ++ [(.inr t.m, .lst ((ab ++ [t.m]).map D.str))] ++ lnD (T.lnss (t.ks.take i) (ab ++ [t.m]))) (.inr t.m) = some (.lst ((ab ++ [t.m]).map D.str)) := by
      rw [List.append_assoc, getD_app hk, List.singleton_append, getD_head]
    have hsp : T.pres t.ks = T.pres (t.ks.take i) ++ (c.pre ++ T.pres (t.ks.drop (i + 1))) := by
      conv => lhs; rw [← List.take_append_drop i t.ks, pres_app, List.drop_eq_getElem_cons hil]
      rw [List.getElem?_eq_getElem hil] at hc
      rw [Option.some.inj hc]
      simp only [T.pres]
    have hnd3 := hnd2
    rw [hsp, List.map_append, List.map_append] at hnd3
    have hd1 := List.nodup_append.mp hnd3
    have hd2 := List.nodup_append.mp hd1.2.1
    have hln := congrArg List.length hsp
    rw [List.length_append, List.length_append] at hln
    have fin : ∀ kv2 : List (Key × D), getD' kv2 (.inr t.m) = some (.lst ((ab ++ [t.m]).map D.str)) → kv2.length + c.pre.length ≤ 100 → (∀ p ∈ kv2, ∀ q ∈ c.pre, p.1 ≠ .inr q.m) → N [.shr t.d, .shr (.lst (ab.map D.str)), .par (.dic (kv2 ++ lnD (c.lns (ab ++ [t.m])))), .shr c.d] →
        b__law_lines_of_l1 A (sp__law_lines_of' n) { nx := N, rt := (E3.under (endE [.shr, .shr, .par] [t.d, .lst (ab.map D.str), .dic kvs] QR QO) [.shr t.d, .shr (.lst (ab.map D.str)), .par (.dic (kvs ++ [(.inr t.m, .lst ((ab ++ [t.m]).map D.str))])), .emp] (.val (.tup (t.ks.map T.d)))).rt, ro := (E3.under (endE [.shr, .shr, .par] [t.d, .lst (ab.map D.str), .dic kvs] QR QO) [.shr t.d, .shr (.lst (ab.map D.str)), .par (.dic (kvs ++ [(.inr t.m, .lst ((ab ++ [t.m]).map D.str))])), .emp] (.val (.tup (t.ks.map T.d)))).ro, bk := (E3.under (endE [.shr, .shr, .par] [t.d, .lst (ab.map D.str), .dic kvs] QR QO) [.shr t.d, .shr (.lst (ab.map D.str)), .par (.dic (kvs ++ [(.inr t.m, .lst ((ab ++ [t.m]).map D.str))])), .emp] (.val (.tup (t.ks.map T.d)))).nx, ct := N } [.shr t.d, .shr (.lst (ab.map D.str)), .par (.dic kv2), .shr c.d] := by
      intro kv2 g1 g2 g3 q
      rw [hkd] at q ⊢
      exact wo_in g1 ⟨rfl, c, ab ++ [t.m], kv2, rfl, ⟨hkid c hcm, g2, by rw [List.length_append, List.length_singleton]; omega⟩, g3, hd2.1, fun r => q⟩
    refine fin _ eg ?_ ?_ (hN _ ⟨.shr c.d, .inr ⟨_, rfl⟩, ?_⟩)
    · rw [List.length_append, List.length_append, lnD_len, lnss_len, List.length_singleton]; omega
    · intro p hp q hq e
      have hqk : q ∈ T.pres t.ks := mem_pres hcm q hq
      rcases List.mem_append.mp hp with hp | hp
      · rcases List.mem_append.mp hp with hp | hp
        · exact hnew p hp q (by rw [T.pre_eq]; exact List.mem_cons_of_mem _ hqk) e
        · rw [List.mem_singleton.mp hp] at e
          exact hnk q hqk (Sum.inr.inj e).symm
      · obtain ⟨z, hz, rfl⟩ := List.mem_map.mp hp
        have e2 : z.1 = q.m := Sum.inr.inj e
        have hz2 : z.1 ∈ (T.pres (t.ks.take i)).map T.m := by rw [← T.lnss_keys _ (ab ++ [t.m])]; exact List.mem_map_of_mem hz
        exact hd1.2.2 z.1 hz2 q.m (List.mem_append_left _ (List.mem_map_of_mem hq)) e2
    · rw [take_snoc hc, lnss_app]
      simp [lnD, T.lnss]
  · rintro ρ ⟨s3, u3, rfl⟩
    rw [List.length_map, List.take_length]
    refine ⟨trivial, ?_⟩
    have e : kvs ++ [(Sum.inr t.m, D.lst ((ab ++ [t.m]).map D.str))] ++ lnD (T.lnss t.ks (ab ++ [t.m])) = kvs ++ lnD ((t.m, ab ++ [t.m]) :: T.lnss t.ks (ab ++ [t.m])) := by simp [lnD]
    rw [e]
    exact h .non
def sp__law_holds (A : Ad) : S3 := fun ds QR _ => ∃ (b : Bx) (x y : Int), ds = [bD b, .int x, .int y] ∧ inI b x y = true ∧ QR (.bl true) ds
def b__law_holds (A : Ad) : T3S := (sRet (eAnd (eOp oLe (eOp oIdx (eVar 0) (eC (.int 0))) (eVar 1)) (eAnd (eOp oLt (eVar 1) (eOp oAdd (eOp oIdx (eVar 0) (eC (.int 0))) (eOp oIdx (eVar 0) (eC (.int 2))))) (eAnd (eOp oLe (eOp oIdx (eVar 0) (eC (.int 1))) (eVar 2)) (eOp oLt (eVar 2) (eOp oAdd (eOp oIdx (eVar 0) (eC (.int 1))) (eOp oIdx (eVar 0) (eC (.int 3)))))))))
theorem t__law_holds (A : Ad) : ∀ ds QR QO, sp__law_holds A ds QR QO → ds.length = 3 → b__law_holds A (endE [.shr, .shr, .shr] ds QR QO) (startE 0 [.shr, .shr, .shr] ds) := by
  rintro ds QR QO ⟨b, x, y, rfl, hb, h⟩ _
  unfold inI at hb
  rw [Bool.and_eq_true, Bool.and_eq_true, Bool.and_eq_true] at hb
  obtain ⟨⟨h1, h2⟩, h3, h4⟩ := hb
  refine ift h1 (ift h2 (ift h3 ?_))
  show QR (.bl (decide (y < (b.y : Int) + (b.h : Nat)))) _
  rw [h4]
  exact h

end K18
end L3

set_option Elab.async false
set_option linter.all false
set_option maxRecDepth 100000
set_option autoImplicit false
set_option maxHeartbeats 0
namespace L3
namespace K18
open PySem PySem.Spec L2
open PyProof.Rows (b2i)
/-! ### counting -/
def cx (o w : Nat) (x : Int) : Nat := (min (x - (o : Int)) (w : Int)).toNat
def cnt (b : Bx) (x y : Int) : Nat := b.w * cx b.y b.h y + (if (b.y : Int) ≤ y ∧ y < (b.y : Int) + (b.h : Nat) then cx b.x b.w x else 0)
theorem cx_step (o w : Nat) (x : Int) : cx o w (x + 1) = cx o w x + (if (o : Int) ≤ x ∧ x < (o : Int) + (w : Nat) then 1 else 0) := by
  unfold cx
  split <;> omega
theorem inI_iff (b : Bx) (x y : Int) : inI b x y = true ↔ ((b.x : Int) ≤ x ∧ x < (b.x : Int) + (b.w : Nat)) ∧ ((b.y : Int) ≤ y ∧ y < (b.y : Int) + (b.h : Nat)) := by
  unfold inI
  rw [Bool.and_eq_true, Bool.and_eq_true, Bool.and_eq_true, decide_eq_true_eq, decide_eq_true_eq, decide_eq_true_eq, decide_eq_true_eq]
theorem cnt_step (b : Bx) (x y : Int) : cnt b (x + 1) y = cnt b x y + (if inI b x y = true then 1 else 0) := by
  unfold cnt
  by_cases h : (b.y : Int) ≤ y ∧ y < (b.y : Int) + (b.h : Nat)
  · rw [if_pos h, if_pos h, cx_step]
    by_cases h2 : (b.x : Int) ≤ x ∧ x < (b.x : Int) + (b.w : Nat)
    · rw [if_pos h2, if_pos ((inI_iff b x y).mpr ⟨h2, h⟩)]; omega
    · rw [if_neg h2, if_neg fun q => h2 ((inI_iff b x y).mp q).1]; omega
  · rw [if_neg h, if_neg h, if_neg fun q => h ((inI_iff b x y).mp q).2]
theorem cnt_row (b : Bx) (W : Nat) (y : Int) (h : b.x + b.w ≤ W) : cnt b ((W : Int) + 1) y = cnt b (-1) (y + 1) := by
  unfold cnt
  have e1 : cx b.x b.w ((W : Int) + 1) = b.w := by unfold cx; omega
  have e2 : cx b.x b.w (-1) = 0 := by unfold cx; omega
  rw [e1, e2, cx_step]
  by_cases h : (b.y : Int) ≤ y ∧ y < (b.y : Int) + (b.h : Nat)
  · rw [if_pos h, if_pos h, Nat.mul_succ]; simp
  · rw [if_neg h, if_neg h]; simp
theorem cnt_0 (b : Bx) : cnt b (-1) (-1) = 0 := by
  unfold cnt
  have e1 : cx b.y b.h (-1) = 0 := by unfold cx; omega
  rw [e1, if_neg (by omega)]
  rfl
theorem cnt_end (b : Bx) (H : Nat) (h : b.y + b.h ≤ H) : cnt b (-1) ((H : Int) + 1) = b.w * b.h := by
  unfold cnt
  have e1 : cx b.y b.h ((H : Int) + 1) = b.h := by unfold cx; omega
  rw [e1, if_neg (by omega)]
  rfl
theorem hit_inn (i j : Nat) : ∀ (L : List (Str × Bx)) (r : D), L.foldl (fun r b => if inI b.2 (i : Int) (j : Int) = true then .str b.1 else r) r = (((inn L i j).getLast?).map D.str).getD r
  | [], r => rfl
  | b :: L, r => by
    have e : inI b.2 (i : Int) (j : Int) = inB b.2 i j := by
      rw [Bool.eq_iff_iff, inI_iff]
      unfold inB
      rw [decide_eq_true_eq]
      omega
    rw [List.foldl_cons, hit_inn i j L, e]
    cases h : inB b.2 i j with
    | true =>
      have : inn (b :: L) i j = b.1 :: inn L i j := by unfold inn; rw [List.filter_cons_of_pos (by rw [h])]; rfl
      rw [this, List.getLast?_cons]
      cases (inn L i j).getLast? <;> rfl
    | false =>
      have : inn (b :: L) i j = inn L i j := by unfold inn; rw [List.filter_cons_of_neg (by rw [h]; exact Bool.false_ne_true)]
      rw [this]; rfl
theorem hit_none {L : List (Str × Bx)} {x y : Int} (h : ∀ b ∈ L, inI b.2 x y = false) : hitI L x y = .non := by
  unfold hitI
  have go : ∀ (L : List (Str × Bx)) (r : D), (∀ b ∈ L, inI b.2 x y = false) → L.foldl (fun r b => if inI b.2 x y = true then .str b.1 else r) r = r := by
    intro L
    induction L with
    | nil => intro r _; rfl
    | cons b L ih =>
      intro r h
      rw [List.foldl_cons, ih _ fun c hc => h c (List.mem_cons_of_mem _ hc), h b (List.mem_cons_self ..)]
      rfl
  exact go L _ h
theorem out_none (t : T) {x y : Int} (h : ¬ (0 ≤ x ∧ x < (t.sz.1 : Nat) ∧ 0 ≤ y ∧ y < (t.sz.2 : Nat))) : ∀ b ∈ t.bx 0 0, inI b.2 x y = false := by
  intro b hb
  obtain ⟨h1, h2, h3, h4⟩ := T.bx_in t 0 0 b hb
  cases q : inI b.2 x y with
  | false => rfl
  | true =>
    obtain ⟨⟨q1, q2⟩, q3, q4⟩ := (inI_iff _ _ _).mp q
    exact absurd ⟨by omega, by omega, by omega, by omega⟩ h
/-- the counts, a number for each box -/
structure Ct (L : List (Str × Bx)) (C : List (Key × D)) (f : Str × Bx → Nat) : Prop where
  len : C.length ≤ 40
  get : ∀ b ∈ L, getD' C (.inr b.1) = some (.int (f b : Nat))
theorem Ct.ext {L : List (Str × Bx)} {C : List (Key × D)} {f g : Str × Bx → Nat} (h : Ct L C f) (e : ∀ b ∈ L, f b = g b) : Ct L C g := ⟨h.len, fun b hb => by rw [h.get b hb, e b hb]⟩
theorem putD_len_old {kvs : List (Key × D)} {k : Key} {d d' : D} (h : getD' kvs k = some d') : (putD kvs k d).length = kvs.length := by
  unfold putD
  have : (kvs.any fun kv => decide (kv.1 = k)) = true := by
    unfold getD' at h
    obtain ⟨p, hp, _⟩ := Option.map_eq_some_iff.mp h
    exact List.any_eq_true.mpr ⟨p, List.mem_of_find?_eq_some hp, List.find?_some (p := fun kv : Key × D => decide (kv.1 = k)) hp⟩
  rw [if_pos this, List.length_map]
def sp_law (A : Ad) : S3 := fun ds QR _ => ∃ ns : List Int, ds = [.scr ns] ∧ ns.length ≤ 63 ∧ QR (.bl true) ds
def b_law_l1t1 (A : Ad) : T3S := (sDPutD (eC (.int 0)) (eVar 9) (eVar 10))
def b_law_l1 (A : Ad) : T3S := (sSeq (sDPutD (eOp (oOwnGet A.Laid [.shr, .shr] (sp_Laid___getitem__ A)) (eVar 3) (eVar 10)) (eVar 8) (eVar 10))
 (b_law_l1t1 A))
def b_law_l2l3e1e3l4t1 (A : Ad) : T3S := (sDPutD (eOp oAdd (eDGet (eVar 9) (eVar 10)) (eC (.int 1))) (eVar 9) (eVar 10))
def b_law_l2l3e1e3l4 (A : Ad) : T3S := (sSeq (sIf (fNot (fTru (eCall [.shr, .shr, .shr] (sp__law_holds A) (aCons (eDGet (eVar 8) (eVar 10)) (aCons (eVar 12) (aCons (eVar 11) aNil))))))
 (sRet (eC (.bl false)))
 sNext)
 (b_law_l2l3e1e3l4t1 A))
def b_law_l2l3t1 (A : Ad) : T3S := (sIf (fOr (fTst (eOp oLt (eVar 12) (eC (.int 0)))) (fOr (fTst (eOp oLt (eVar 11) (eC (.int 0)))) (fOr (fTst (eOp (oEq false) (eVar 12) (eVar 4))) (fTst (eOp (oEq false) (eVar 11) (eVar 6))))))
 (sIf (fTst (eOp (oIsN true) (eVar 13) (eC .non)))
 (sRet (eC (.bl false)))
 sNext)
 (sIf (fOr (fNot (fTru (eCB cIsi (aCons (eVar 13) (aCons (eC (.ty "str")) aNil))))) (fTst (eOp (oEq true) (eVar 13) (eOp oIdx (eOp oIdx (eVar 5) (eVar 11)) (eVar 12)))))
 (sRet (eC (.bl false)))
 (sFor (iS (eDGet (eAsD (eVar 7)) (eVar 13))) (gN 10)
 (b_law_l2l3e1e3l4 A))))
def b_law_l2l3 (A : Ad) : T3S := (sSeq (sAsg (eMeth A.Laid "hit" [.shr, .shr, .shr] (sp_Laid_hit A) (eVar 3) (aCons (eVar 12) (aCons (eVar 11) aNil))) (gN 13))
 (b_law_l2l3t1 A))
def b_law_l2 (A : Ad) : T3S := (sFor (iR2 (aCons (eNeg (eC (.int 1))) (aCons (eOp oAdd (eVar 4) (eC (.int 1))) aNil))) (gN 12)
 (b_law_l2l3 A))
def b_law_l5 (A : Ad) : T3S := (sIf (fTst (eOp (oEq true) (eDGet (eVar 9) (eVar 10)) (eOp oMul (eOp oIdx (eDGet (eVar 8) (eVar 10)) (eC (.int 2))) (eOp oIdx (eDGet (eVar 8) (eVar 10)) (eC (.int 3))))))
 (sRet (eC (.bl false)))
 sNext)
def b_law_l6 (A : Ad) : T3S := (sIf (fTst (eOp (oIsN true) (eMeth A.Laid "hit" [.shr, .shr, .shr] (sp_Laid_hit A) (eVar 3) (aCons (eVar 12) (aCons (eVar 11) aNil))) (eC .non)))
 (sRet (eC (.bl false)))
 sNext)
def b_law_t14 (A : Ad) : T3S := (sRet (eC (.bl true)))
def b_law_t13 (A : Ad) : T3S := (sSeq (sFor (iS (eLst (aCons (eTup (aCons (eOp oAdd (eVar 4) (eVar 14)) (aCons (eC (.int 0)) aNil))) (aCons (eTup (aCons (eC (.int 0)) (aCons (eOp oAdd (eVar 6) (eVar 14)) aNil))) (aCons (eTup (aCons (eOp (oI0 fun i j => .int (i - j)) (eOp (oI0 fun i j => .int (i - j)) (eC (.int 0)) (eC (.int 1))) (eVar 14)) (aCons (eC (.int 0)) aNil))) (aCons (eTup (aCons (eC (.int 0)) (aCons (eOp (oI0 fun i j => .int (i - j)) (eOp (oI0 fun i j => .int (i - j)) (eC (.int 0)) (eC (.int 1))) (eVar 14)) aNil))) (aCons (eTup (aCons (eVar 4) (aCons (eOp oAdd (eVar 6) (eVar 14)) aNil))) (aCons (eTup (aCons (eOp (oI0 fun i j => .int (i - j)) (eC (.int 0)) (eVar 14)) (aCons (eOp (oI0 fun i j => .int (i - j)) (eC (.int 0)) (eVar 14)) aNil))) aNil)))))))) (gT 2 (fun xs ρ Q => match xs with | x :: r => (gN 12) x ρ fun ρ1 => (fun xs ρ Q => match xs with | x :: r => (gN 11) x ρ fun ρ1 => (fun xs ρ Q => xs = [] ∧ Q ρ) r ρ1 Q | [] => False) r ρ1 Q | [] => False))
 (b_law_l6 A))
 (b_law_t14 A))
def b_law_t12 (A : Ad) : T3S := (sSeq (sAsg (eOp oAdd (eC (.int 1)) (eCall [.par, .shr] (sp__law_pick A) (aCons (eVar 1) (aCons (eC (.int 1000000)) aNil)))) (gN 14))
 (b_law_t13 A))
def b_law_t11 (A : Ad) : T3S := (sSeq (sFor (iKy (eVar 7)) (gN 10)
 (b_law_l5 A))
 (b_law_t12 A))
def b_law_t10 (A : Ad) : T3S := (sSeq (sFor (iR2 (aCons (eNeg (eC (.int 1))) (aCons (eOp oAdd (eVar 6) (eC (.int 1))) aNil))) (gN 11)
 (b_law_l2 A))
 (b_law_t11 A))
def b_law_t9 (A : Ad) : T3S := (sSeq (sFor (iKy (eVar 7)) (gN 10)
 (b_law_l1 A))
 (b_law_t10 A))
def b_law_t8 (A : Ad) : T3S := (sSeq (sAsgO oDicE 9)
 (b_law_t9 A))
def b_law_t7 (A : Ad) : T3S := (sSeq (sFrzK 7 (sAsgO oDicE 8))
 (b_law_t8 A))
def b_law_t6 (A : Ad) : T3S := (sSeq (sDrop (eCall [.shr, .shr, .par] (sp__law_lines_of A) (aCons (eVar 2) (aCons (eLst aNil) (aCons (eVar 7) aNil)))))
 (b_law_t7 A))
def b_law_t5 (A : Ad) : T3S := (sSeq (sAsgO oDicE 7)
 (b_law_t6 A))
def b_law_t4 (A : Ad) : T3S := (sSeq (sAsg (eCB cLen (aCons (eVar 5) aNil)) (gN 6))
 (b_law_t5 A))
def b_law_t3 (A : Ad) : T3S := (sSeq (sAsg (eCall [.shr] (sp__law_picture A) (aCons (eVar 2) aNil)) (gT 2 (fun xs ρ Q => match xs with | x :: r => (gN 4) x ρ fun ρ1 => (fun xs ρ Q => match xs with | x :: r => (gN 5) x ρ fun ρ1 => (fun xs ρ Q => xs = [] ∧ Q ρ) r ρ1 Q | [] => False) r ρ1 Q | [] => False)))
 (b_law_t4 A))
def b_law_t2 (A : Ad) : T3S := (sSeq (sAsg (eShr (oMake A.Laid [.shr] (sp_Laid___init__ A) (aCons (eShr (oMake A.Page [.shr] (sp_Page___init__ A) (aCons (eVar 2) aNil))) aNil))) (gN 3))
 (b_law_t3 A))
def b_law_t1 (A : Ad) : T3S := (sSeq (sAsg (eCall [.par] (sp__law_tree A) (aCons (eVar 1) aNil)) (gN 2))
 (b_law_t2 A))
def b_law (A : Ad) : T3S := (sSeq (sAsgO (oCall [.shr] (sp__law_bag A) (aCons (eVar 0) aNil)) 1)
 (b_law_t1 A))
theorem ln_keys (t : T) : (lnD (t.lns [])).map (fun p => kD p.1) = (t.bx 0 0).map fun b => D.str b.1 := by
  have h1 := congrArg (List.map D.str) (T.lns_keys t [])
  have h2 := congrArg (List.map D.str) (T.bx_keys t 0 0)
  rw [List.map_map, List.map_map] at h1 h2
  unfold lnD
  rw [List.map_map]
  exact h1.trans h2.symm
theorem ln_get {t : T} (hg : t.good) {m : Str} {ab : List Str} (h : (m, ab) ∈ t.lns []) : getD' (lnD (t.lns [])) (.inr m) = some (.lst (ab.map D.str)) :=
  getD_map (f := fun p : Str × List Str => p.1) (g := fun p => .lst (p.2.map D.str)) (by rw [T.lns_keys]; exact hg.nd) h
theorem bx_get {t : T} (hg : t.good) {b : Str × Bx} (h : b ∈ t.bx 0 0) : getD' (bxD (t.bx 0 0)) (.inr b.1) = some (bD b.2) :=
  getD_map (f := fun b : Str × Bx => b.1) (g := fun b => bD b.2) (hg.bxn 0 0) h
theorem T.good.bxl {t : T} (g : t.good) : (t.bx 0 0).length ≤ 40 := by
  have := congrArg List.length (T.bx_keys t 0 0)
  rw [List.length_map, List.length_map] at this
  have := g.len
  omega
theorem bx_inj {L : List (Str × Bx)} (hn : (L.map (·.1)).Nodup) : ∀ {b c : Str × Bx}, b ∈ L → c ∈ L → b.1 = c.1 → b = c := by
  induction L with
  | nil => intro b c h; cases h
  | cons a L ih =>
    intro b c hb hc e
    rw [List.map_cons, List.nodup_cons] at hn
    rcases List.mem_cons.mp hb with e1 | h1
    · rcases List.mem_cons.mp hc with e2 | h2
      · rw [e1, e2]
      · exact absurd (by rw [← e1, e]; exact List.mem_map_of_mem h2) hn.1
    · rcases List.mem_cons.mp hc with e2 | h2
      · exact absurd (by rw [← e2, ← e]; exact List.mem_map_of_mem h1) hn.1
      · exact ih hn.2 h1 h2 e
/-- one point of the picture -/
theorem point (A : Ad) {t : T} (hg : t.good) {ns : List Int} {bag pg P : D} {C : List (Key × D)} {s10 : Sl} {x y : Int} (u10 : free s10) (hx0 : -1 ≤ x) (hx1 : x ≤ (t.sz.1 : Nat)) (hy0 : -1 ≤ y) (hy1 : y ≤ (t.sz.2 : Nat))
    (hC : Ct (t.bx 0 0) C fun b => cnt b.2 x y) (E : E3) (hE : ∀ (C' : List (Key × D)) (s10 : Sl), free s10 → Ct (t.bx 0 0) C' (fun b => cnt b.2 (x + 1) y) → E.nx [.shr (.scr ns), .own bag, .shr t.d, .shr (laidD A t pg P), .shr (.int (t.sz.1 : Nat)), .shr (.lst (linesD t.pic)), .shr (.int (t.sz.2 : Nat)), .shr (.dik (lnD (t.lns []))), .own (.dic (bxD (t.bx 0 0))), .own (.dic C'), s10, .shr (.int y), .shr (.int x), .shr (hitI (t.bx 0 0) x y), .emp]) : b_law_l2l3t1 A E [.shr (.scr ns), .own bag, .shr t.d, .shr (laidD A t pg P), .shr (.int (t.sz.1 : Nat)), .shr (.lst (linesD t.pic)), .shr (.int (t.sz.2 : Nat)), .shr (.dik (lnD (t.lns []))), .own (.dic (bxD (t.bx 0 0))), .own (.dic C), s10, .shr (.int y), .shr (.int x), .shr (hitI (t.bx 0 0) x y), .emp] := by
  by_cases hin : 0 ≤ x ∧ x < (t.sz.1 : Nat) ∧ 0 ≤ y ∧ y < (t.sz.2 : Nat)
  · obtain ⟨hx, hx', hy, hy'⟩ := hin
    refine ife (fun q => absurd (of_decide_eq_true q) (by omega)) (ife (fun q => absurd (of_decide_eq_true q) (by omega)) ⟨rfl, rfl, ife (fun q => ?_) ⟨rfl, rfl, ife (fun q => ?_) ?_⟩⟩)
    · have q : D.eqv (.int x) (.int (t.sz.1 : Nat)) = true := q
      rw [eqi] at q; omega
    · have q : D.eqv (.int y) (.int (t.sz.2 : Nat)) = true := q
      rw [eqi] at q; omega
    obtain ⟨i, rfl⟩ := Int.eq_ofNat_of_zero_le hx
    obtain ⟨j, rfl⟩ := Int.eq_ofNat_of_zero_le hy
    obtain ⟨pre, m, hi, ⟨line, hl1, hl2⟩, hln⟩ := T.geo t 0 0 i j (by omega) (by omega)
    rw [Nat.zero_add, Nat.zero_add] at hi
    have hm : hitI (t.bx 0 0) (i : Int) (j : Int) = .str m := by
      unfold hitI
      rw [hit_inn, hi]
      simp
    have hmem : m ∈ t.pre.map T.m := by
      have : m ∈ inn (t.bx 0 0) i j := by rw [hi]; simp
      rw [← T.bx_keys t 0 0]
      unfold inn at this
      obtain ⟨b, hb, e⟩ := List.mem_map.mp this
      exact e ▸ List.mem_map_of_mem (List.mem_filter.mp hb).1
    obtain ⟨q, hq, rfl⟩ := List.mem_map.mp hmem
    have hgm := (hg.ok q hq).1
    rw [hm] at hE ⊢
    refine ⟨rfl, wo_in (atI_nat (linesD_get hl1)) (wo_in (atI_nat (by rw [List.getElem?_map, hl2]; rfl)) ⟨hgm.shp, hgm.shp, ife (fun z => ?_) ?_⟩)⟩
    · have z : (!D.eqv (.str q.m) (.str q.m)) = true := z
      simp [D.eqv] at z
    have hget := ln_get hg (hln [])
    rw [List.nil_append, ← hi] at hget
    refine wo_in hget ?_
    have hnames : (inn (t.bx 0 0) i j).Nodup := by
      unfold inn
      exact ((List.filter_sublist).map _).nodup (hg.bxn 0 0)
    have hall : ∀ {k : Nat} {a : Str}, (inn (t.bx 0 0) i j)[k]? = some a → ∃ b ∈ t.bx 0 0, b.1 = a ∧ inI b.2 (i : Int) (j : Int) = true := by
      intro k a ha
      have ha := List.mem_of_getElem? ha
      unfold inn at ha
      obtain ⟨b, hb, e⟩ := List.mem_map.mp ha
      obtain ⟨hb1, hb2⟩ := List.mem_filter.mp hb
      refine ⟨b, hb1, e, ?_⟩
      rw [inI_iff]
      unfold inB at hb2
      have := of_decide_eq_true hb2
      omega
    have hin' : ∀ b ∈ t.bx 0 0, (b.1 ∈ inn (t.bx 0 0) i j ↔ inI b.2 (i : Int) (j : Int) = true) := by
      intro b hb
      constructor
      · intro h
        unfold inn at h
        obtain ⟨c, hc, e⟩ := List.mem_map.mp h
        obtain ⟨hc1, hc2⟩ := List.mem_filter.mp hc
        rw [← bx_inj (hg.bxn 0 0) hc1 hb e, inI_iff]
        unfold inB at hc2
        have := of_decide_eq_true hc2
        omega
      · intro h
        unfold inn
        refine List.mem_map_of_mem (List.mem_filter.mpr ⟨hb, ?_⟩)
        rw [inI_iff] at h
        unfold inB
        exact decide_eq_true (by omega)
    generalize inn (t.bx 0 0) i j = names at hnames hall hin'
    refine for_inv (fun k ρ => ∃ (C : List (Key × D)) (s10 : Sl), free s10 ∧ Ct (t.bx 0 0) C (fun b => cnt b.2 (i : Int) (j : Int) + (if b.1 ∈ names.take k then 1 else 0)) ∧ ρ = [.shr (.scr ns), .own bag, .shr t.d, .shr (laidD A t pg P), .shr (.int (t.sz.1 : Nat)), .shr (.lst (linesD t.pic)), .shr (.int (t.sz.2 : Nat)), .shr (.dik (lnD (t.lns []))), .own (.dic (bxD (t.bx 0 0))), .own (.dic C), s10, .shr (.int (j : Nat)), .shr (.int (i : Nat)), .shr (.str q.m), .emp]) _ ?_ ?_ ⟨C, s10, u10, hC.ext fun b _ => by simp, rfl⟩
    · rintro k d ρ N hd ⟨C, s10, u10, hC, rfl⟩ hN
      rw [List.getElem?_map] at hd
      obtain ⟨a, ha, rfl⟩ := Option.map_eq_some_iff.mp hd
      obtain ⟨b, hb, rfl, hbi⟩ := hall ha
      have hc := hC.get b hb
      have hbb := bx_get hg hb
      have hkn : b.1 ∉ names.take k := by
        intro h
        have hk : k < names.length := (List.getElem?_eq_some_iff.mp ha).1
        rw [← List.take_append_drop k names] at hnames
        have hdr : names.drop k = b.1 :: names.drop (k + 1) := by
          rw [List.drop_eq_getElem_cons hk]
          rw [List.getElem?_eq_getElem hk] at ha
          rw [Option.some.inj ha]
        rw [hdr] at hnames
        exact (List.nodup_append.mp hnames).2.2 b.1 h b.1 (List.mem_cons_self ..) rfl
      refine ⟨u10.un, ?_⟩
      show b_law_l2l3e1e3l4 A _ [.shr (.scr ns), .own bag, .shr t.d, .shr (laidD A t pg P), .shr (.int (t.sz.1 : Nat)), .shr (.lst (linesD t.pic)), .shr (.int (t.sz.2 : Nat)), .shr (.dik (lnD (t.lns []))), .own (.dic (bxD (t.bx 0 0))), .own (.dic C), .shr (.str b.1), .shr (.int (j : Nat)), .shr (.int (i : Nat)), .shr (.str q.m), .emp]
      refine wo_in hbb ⟨rfl, b.2, (i : Int), (j : Int), rfl, hbi, ?_⟩
      show b_law_l2l3e1e3l4t1 A _ [.shr (.scr ns), .own bag, .shr t.d, .shr (laidD A t pg P), .shr (.int (t.sz.1 : Nat)), .shr (.lst (linesD t.pic)), .shr (.int (t.sz.2 : Nat)), .shr (.dik (lnD (t.lns []))), .own (.dic (bxD (t.bx 0 0))), .own (.dic C), .shr (.str b.1), .shr (.int (j : Nat)), .shr (.int (i : Nat)), .shr (.str q.m), .emp]
      refine wo_in hc ⟨by have := hC.len; rw [sizeLine_eq]; omega, hN _ ⟨_, .shr (.str b.1), .inr ⟨_, rfl⟩, ⟨?_, fun c hcm => ?_⟩, rfl⟩⟩
      · rw [putD_len_old hc]; exact hC.len
      · rw [getD_put]
        by_cases e : c.1 = b.1
        · have ec := bx_inj (hg.bxn 0 0) hcm hb e
          subst ec
          have e1 : c.1 ∈ names.take (k + 1) := by rw [take_snoc ha]; simp
          rw [if_pos rfl, if_pos e1, if_neg hkn]
          rfl
        · rw [if_neg fun z => e (Sum.inr.inj z), hC.get c hcm]
          have : (c.1 ∈ names.take (k + 1)) ↔ (c.1 ∈ names.take k) := by rw [take_snoc ha]; simp [e]
          simp only [this]
    · rintro ρ ⟨C, s10, u10, hC, rfl⟩
      rw [List.length_map, List.take_length] at hC
      refine ⟨trivial, hE C s10 u10 (hC.ext fun b hb => ?_)⟩
      rw [cnt_step]
      simp only [hin' b hb]
  · have hm := hit_none (out_none t hin)
    rw [hm] at hE ⊢
    have fin : E.nx [.shr (.scr ns), .own bag, .shr t.d, .shr (laidD A t pg P), .shr (.int (t.sz.1 : Nat)), .shr (.lst (linesD t.pic)), .shr (.int (t.sz.2 : Nat)), .shr (.dik (lnD (t.lns []))), .own (.dic (bxD (t.bx 0 0))), .own (.dic C), s10, .shr (.int y), .shr (.int x), .shr .non, .emp] := hE C s10 u10 (hC.ext fun b hb => by rw [cnt_step, if_neg (by rw [out_none t hin b hb]; exact Bool.false_ne_true)]; rfl)
    refine ifs (fun _ => fin) fun z1 => ifs (fun _ => fin) fun z2 => ⟨rfl, rfl, ifs (fun _ => fin) fun z3 => ⟨rfl, rfl, ift ?_ fin⟩⟩
    have z1 : ¬ x < 0 := fun q => z1 (decide_eq_true q)
    have z2 : ¬ y < 0 := fun q => z2 (decide_eq_true q)
    have z3 : ¬ x = (t.sz.1 : Nat) := fun q => z3 (show D.eqv (.int x) (.int (t.sz.1 : Nat)) = true by rw [eqi]; exact q)
    show D.eqv (.int y) (.int (t.sz.2 : Nat)) = true
    rw [eqi]
    omega

end K18
end L3

set_option Elab.async false
set_option linter.all false
set_option maxRecDepth 100000
set_option autoImplicit false
set_option maxHeartbeats 0
namespace L3
namespace K18
open PySem PySem.Spec L2
open PyProof.Rows (b2i)
def zeros (L : List (Str × Bx)) : List (Key × D) := L.map fun b => (.inr b.1, .int 0)
theorem bxD_len (L : List (Str × Bx)) : (bxD L).length = L.length := by unfold bxD; rw [List.length_map]
theorem bx_take_new {L : List (Str × Bx)} (hn : (L.map (·.1)).Nodup) {i : Nat} {b : Str × Bx} (h : L[i]? = some b) : ∀ c ∈ L.take i, c.1 ≠ b.1 := by
  intro c hc e
  have hi : i < L.length := (List.getElem?_eq_some_iff.mp h).1
  rw [← List.take_append_drop i L, List.map_append] at hn
  have hd : L.drop i = b :: L.drop (i + 1) := by
    rw [List.drop_eq_getElem_cons hi]
    rw [List.getElem?_eq_getElem hi] at h
    rw [Option.some.inj h]
  rw [hd] at hn
  exact (List.nodup_append.mp hn).2.2 c.1 (List.mem_map_of_mem hc) b.1 (List.mem_cons_self ..) e
theorem laid_fields (A : Ad) (t : T) (pg P : D) : laidD A t pg P = .obj A.Laid [("kept_page", pg), ("pairs", P), ("sizes", .dic (szD t.post)), ("places", .dic (bxD (t.bx 0 0))), ("marks", .lst (t.pre.map fun n => .str n.m))] := rfl
theorem hit_call (A : Ad) {t : T} (hg : t.good) {pg P : D} {x y : Int} {QR : D → List D → Prop} (h : QR (hitI (t.bx 0 0) x y) [laidD A t pg P, .int x, .int y]) : sp_Laid_hit A [laidD A t pg P, .int x, .int y] QR QR := ⟨t, pg, P, x, y, rfl, hg, h⟩
theorem t_law (A : Ad) : ∀ ds QR QO, sp_law A ds QR QO → ds.length = 1 → b_law A (endE [.shr] ds QR QO) (startE 14 [.shr] ds) := by
  rintro ds QR QO ⟨ns, rfl, hl, h⟩ _
  refine ⟨rfl, ns, rfl, hl, fun bag hb => ⟨rfl, ?_⟩⟩
  show b_law_t1 A _ [.shr (.scr ns), .own bag, .emp, .emp, .emp, .emp, .emp, .emp, .emp, .emp, .emp, .emp, .emp, .emp, .emp]
  refine ⟨rfl, bag, rfl, hb, fun t bag hg hb => ⟨rfl, ?_⟩⟩
  show b_law_t2 A _ [.shr (.scr ns), .own bag, .shr t.d, .emp, .emp, .emp, .emp, .emp, .emp, .emp, .emp, .emp, .emp, .emp, .emp]
  refine ⟨rfl, t, rfl, hg, fun x y z => ⟨rfl, rfl, t, x, y, z, rfl, hg, fun P => ⟨rfl, rfl, ?_⟩⟩⟩
  have hL := hg.bxl
  have hsz := T.sz_le t fun q hq => (hg.ok q hq).2
  have hlen := hg.len
  generalize pageD A t x y z = pg
  show b_law_t3 A _ [.shr (.scr ns), .own bag, .shr t.d, .shr (laidD A t pg P), .emp, .emp, .emp, .emp, .emp, .emp, .emp, .emp, .emp, .emp, .emp]
  refine ⟨rfl, t, rfl, hg.ht, hg.len, fun q hq => (hg.ok q hq).2, rfl, rfl, rfl, rfl, ?_⟩
  show b_law_t4 A _ [.shr (.scr ns), .own bag, .shr t.d, .shr (laidD A t pg P), .shr (.int (t.sz.1 : Nat)), .shr (.lst (linesD t.pic)), .emp, .emp, .emp, .emp, .emp, .emp, .emp, .emp, .emp]
  refine ⟨rfl, ?_⟩
  show b_law_t5 A _ [.shr (.scr ns), .own bag, .shr t.d, .shr (laidD A t pg P), .shr (.int (t.sz.1 : Nat)), .shr (.lst (linesD t.pic)), .shr (.int ((linesD t.pic).length : Nat)), .emp, .emp, .emp, .emp, .emp, .emp, .emp, .emp]
  rw [linesD_len, (T.pic_dim t).1]
  refine ⟨rfl, ?_⟩
  show b_law_t6 A _ [.shr (.scr ns), .own bag, .shr t.d, .shr (laidD A t pg P), .shr (.int (t.sz.1 : Nat)), .shr (.lst (linesD t.pic)), .shr (.int (t.sz.2 : Nat)), .own (.dic []), .emp, .emp, .emp, .emp, .emp, .emp, .emp]
  refine ⟨sz _ rfl, rfl, t, [], [], rfl, ⟨hg.ht, by rw [List.length_nil]; omega, by decide⟩, by simp, hg.nd, fun r => ?_⟩
  show b_law_t7 A _ [.shr (.scr ns), .own bag, .shr t.d, .shr (laidD A t pg P), .shr (.int (t.sz.1 : Nat)), .shr (.lst (linesD t.pic)), .shr (.int (t.sz.2 : Nat)), .own (.dic (lnD (t.lns []))), .emp, .emp, .emp, .emp, .emp, .emp, .emp]
  refine ⟨rfl, ?_⟩
  show b_law_t8 A _ [.shr (.scr ns), .own bag, .shr t.d, .shr (laidD A t pg P), .shr (.int (t.sz.1 : Nat)), .shr (.lst (linesD t.pic)), .shr (.int (t.sz.2 : Nat)), .shr (.dik (lnD (t.lns []))), .own (.dic []), .emp, .emp, .emp, .emp, .emp, .emp]
  refine ⟨rfl, ?_⟩
  show b_law_t9 A _ [.shr (.scr ns), .own bag, .shr t.d, .shr (laidD A t pg P), .shr (.int (t.sz.1 : Nat)), .shr (.lst (linesD t.pic)), .shr (.int (t.sz.2 : Nat)), .shr (.dik (lnD (t.lns []))), .own (.dic []), .own (.dic []), .emp, .emp, .emp, .emp, .emp]
  show forL (gN 10) (b_law_l1 A) _ ((lnD (t.lns [])).map fun p => kD p.1) [.shr (.scr ns), .own bag, .shr t.d, .shr (laidD A t pg P), .shr (.int (t.sz.1 : Nat)), .shr (.lst (linesD t.pic)), .shr (.int (t.sz.2 : Nat)), .shr (.dik (lnD (t.lns []))), .own (.dic []), .own (.dic []), .emp, .emp, .emp, .emp, .emp]
  rw [ln_keys]
  have hbn := hg.bxn 0 0
  refine for_inv (fun i ρ => ∃ s10, free s10 ∧ ρ = [.shr (.scr ns), .own bag, .shr t.d, .shr (laidD A t pg P), .shr (.int (t.sz.1 : Nat)), .shr (.lst (linesD t.pic)), .shr (.int (t.sz.2 : Nat)), .shr (.dik (lnD (t.lns []))), .own (.dic (bxD ((t.bx 0 0).take i))), .own (.dic (zeros ((t.bx 0 0).take i))), s10, .emp, .emp, .emp, .emp]) _ ?_ ?_ ⟨.emp, .inl rfl, rfl⟩
  · rintro i d ρ N hd ⟨s10, u10, rfl⟩ hN
    rw [List.getElem?_map] at hd
    obtain ⟨b, hbi, rfl⟩ := Option.map_eq_some_iff.mp hd
    have hnew := bx_take_new hbn hbi
    have hk : ∀ p ∈ bxD ((t.bx 0 0).take i), p.1 ≠ .inr b.1 := by
      intro p hp e
      obtain ⟨q, hq, rfl⟩ := List.mem_map.mp hp
      exact hnew q hq (Sum.inr.inj e)
    have hk2 : ∀ p ∈ zeros ((t.bx 0 0).take i), p.1 ≠ .inr b.1 := by
      intro p hp e
      obtain ⟨q, hq, rfl⟩ := List.mem_map.mp hp
      exact hnew q hq (Sum.inr.inj e)
    have hli : ((t.bx 0 0).take i).length ≤ 40 := by rw [List.length_take]; omega
    refine ⟨u10.un, ?_⟩
    show b_law_l1 A _ [.shr (.scr ns), .own bag, .shr t.d, .shr (laidD A t pg P), .shr (.int (t.sz.1 : Nat)), .shr (.lst (linesD t.pic)), .shr (.int (t.sz.2 : Nat)), .shr (.dik (lnD (t.lns []))), .own (.dic (bxD ((t.bx 0 0).take i))), .own (.dic (zeros ((t.bx 0 0).take i))), .shr (.str b.1), .emp, .emp, .emp, .emp]
    refine ⟨rfl, rfl, t, pg, P, b.1, b.2, rfl, bx_get hg (List.mem_of_getElem? hbi), by rw [bxD_len, sizeLine_eq]; omega, ?_⟩
    show b_law_l1t1 A _ [.shr (.scr ns), .own bag, .shr t.d, .shr (laidD A t pg P), .shr (.int (t.sz.1 : Nat)), .shr (.lst (linesD t.pic)), .shr (.int (t.sz.2 : Nat)), .shr (.dik (lnD (t.lns []))), .own (.dic (putD (bxD ((t.bx 0 0).take i)) (.inr b.1) (bD b.2))), .own (.dic (zeros ((t.bx 0 0).take i))), .shr (.str b.1), .emp, .emp, .emp, .emp]
    rw [putD_new hk]
    refine ⟨by unfold zeros; rw [List.length_map, sizeLine_eq]; omega, hN _ ⟨.shr (.str b.1), .inr ⟨_, rfl⟩, ?_⟩⟩
    show ([.shr (.scr ns), .own bag, .shr t.d, .shr (laidD A t pg P), .shr (.int (t.sz.1 : Nat)), .shr (.lst (linesD t.pic)), .shr (.int (t.sz.2 : Nat)), .shr (.dik (lnD (t.lns []))), .own (.dic (bxD ((t.bx 0 0).take i) ++ [(.inr b.1, bD b.2)])), .own (.dic (putD (zeros ((t.bx 0 0).take i)) (.inr b.1) (.int 0))), .shr (.str b.1), .emp, .emp, .emp, .emp] : En) = _
    rw [putD_new hk2, take_snoc hbi]
    simp [bxD, zeros]
  rintro ρ ⟨s10, u10, rfl⟩
  rw [List.length_map, List.take_length]
  refine ⟨trivial, ?_⟩
  have hC0 : Ct (t.bx 0 0) (zeros (t.bx 0 0)) (fun b => cnt b.2 (-1) (-1)) := ⟨by unfold zeros; rw [List.length_map]; exact hL, fun b hb => by
    rw [cnt_0]
    exact getD_map (f := fun b : Str × Bx => b.1) (g := fun _ => D.int 0) hbn hb⟩
  generalize zeros (t.bx 0 0) = C at hC0 ⊢
  show b_law_t10 A _ [.shr (.scr ns), .own bag, .shr t.d, .shr (laidD A t pg P), .shr (.int (t.sz.1 : Nat)), .shr (.lst (linesD t.pic)), .shr (.int (t.sz.2 : Nat)), .shr (.dik (lnD (t.lns []))), .own (.dic (bxD (t.bx 0 0))), .own (.dic C), s10, .emp, .emp, .emp, .emp]
  refine ⟨⟨by omega, by omega, by omega, by omega⟩, ?_⟩
  show forL (gN 11) (b_law_l2 A) _ (rngD (-1) 1 (((t.sz.2 : Nat) : Int) + 1 - -1).toNat) [.shr (.scr ns), .own bag, .shr t.d, .shr (laidD A t pg P), .shr (.int (t.sz.1 : Nat)), .shr (.lst (linesD t.pic)), .shr (.int (t.sz.2 : Nat)), .shr (.dik (lnD (t.lns []))), .own (.dic (bxD (t.bx 0 0))), .own (.dic C), s10, .emp, .emp, .emp, .emp]
  refine for_inv (fun i ρ => ∃ C s10 s11 s12 s13, free s10 ∧ free s11 ∧ free s12 ∧ free s13 ∧ Ct (t.bx 0 0) C (fun b => cnt b.2 (-1) (-1 + (i : Nat))) ∧ ρ = [.shr (.scr ns), .own bag, .shr t.d, .shr (laidD A t pg P), .shr (.int (t.sz.1 : Nat)), .shr (.lst (linesD t.pic)), .shr (.int (t.sz.2 : Nat)), .shr (.dik (lnD (t.lns []))), .own (.dic (bxD (t.bx 0 0))), .own (.dic C), s10, s11, s12, s13, .emp]) _ ?_ ?_ ⟨C, s10, .emp, .emp, .emp, u10, .inl rfl, .inl rfl, .inl rfl, hC0.ext fun b _ => by simp, rfl⟩
  · rintro i d ρ N hd ⟨C, s10, s11, s12, s13, u10, u11, u12, u13, hC, rfl⟩ hN
    obtain ⟨hi, rfl⟩ := rngD_get hd
    refine ⟨u11.un, ?_⟩
    obtain ⟨y, hy⟩ : ∃ y : Int, y = -1 + (i : Nat) * 1 := ⟨_, rfl⟩
    rw [← hy]
    have hy2 : (-1 : Int) + (i : Nat) = y := by omega
    have hy3 : (-1 : Int) + ((i + 1 : Nat) : Int) = y + 1 := by omega
    rw [hy2] at hC
    rw [hy3] at hN
    show b_law_l2 A _ [.shr (.scr ns), .own bag, .shr t.d, .shr (laidD A t pg P), .shr (.int (t.sz.1 : Nat)), .shr (.lst (linesD t.pic)), .shr (.int (t.sz.2 : Nat)), .shr (.dik (lnD (t.lns []))), .own (.dic (bxD (t.bx 0 0))), .own (.dic C), s10, .shr (.int y), s12, s13, .emp]
    refine ⟨⟨by omega, by omega, by omega, by omega⟩, ?_⟩
    show forL (gN 12) (b_law_l2l3 A) _ (rngD (-1) 1 (((t.sz.1 : Nat) : Int) + 1 - -1).toNat) [.shr (.scr ns), .own bag, .shr t.d, .shr (laidD A t pg P), .shr (.int (t.sz.1 : Nat)), .shr (.lst (linesD t.pic)), .shr (.int (t.sz.2 : Nat)), .shr (.dik (lnD (t.lns []))), .own (.dic (bxD (t.bx 0 0))), .own (.dic C), s10, .shr (.int y), s12, s13, .emp]
    refine for_inv (fun j ρ => ∃ C s10 s12 s13, free s10 ∧ free s12 ∧ free s13 ∧ Ct (t.bx 0 0) C (fun b => cnt b.2 (-1 + (j : Nat)) y) ∧ ρ = [.shr (.scr ns), .own bag, .shr t.d, .shr (laidD A t pg P), .shr (.int (t.sz.1 : Nat)), .shr (.lst (linesD t.pic)), .shr (.int (t.sz.2 : Nat)), .shr (.dik (lnD (t.lns []))), .own (.dic (bxD (t.bx 0 0))), .own (.dic C), s10, .shr (.int y), s12, s13, .emp]) _ ?_ ?_ ⟨C, s10, s12, s13, u10, u12, u13, hC.ext fun b _ => by simp, rfl⟩
    · rintro j d ρ N2 hd ⟨C, s10, s12, s13, u10, u12, u13, hC, rfl⟩ hN2
      obtain ⟨hj, rfl⟩ := rngD_get hd
      refine ⟨u12.un, ?_⟩
      obtain ⟨x, hx⟩ : ∃ x : Int, x = -1 + (j : Nat) * 1 := ⟨_, rfl⟩
      rw [← hx]
      have hx2 : (-1 : Int) + (j : Nat) = x := by omega
      have hx3 : (-1 : Int) + ((j + 1 : Nat) : Int) = x + 1 := by omega
      rw [hx2] at hC
      rw [hx3] at hN2
      show b_law_l2l3 A _ [.shr (.scr ns), .own bag, .shr t.d, .shr (laidD A t pg P), .shr (.int (t.sz.1 : Nat)), .shr (.lst (linesD t.pic)), .shr (.int (t.sz.2 : Nat)), .shr (.dik (lnD (t.lns []))), .own (.dic (bxD (t.bx 0 0))), .own (.dic C), s10, .shr (.int y), .shr (.int x), s13, .emp]
      refine ⟨⟨rfl, rfl⟩, rfl, t, pg, P, x, y, rfl, hg, u13.un, ?_⟩
      refine point A hg u10 (by omega) (by omega) (by omega) (by omega) hC _ fun C' s10 u10 hC' => hN2 _ ⟨C', s10, .shr (.int x), .shr (hitI (t.bx 0 0) x y), u10, .inr ⟨_, rfl⟩, .inr ⟨_, rfl⟩, hC', rfl⟩
    · rintro ρ ⟨C, s10, s12, s13, u10, u12, u13, hC, rfl⟩
      rw [rngD_len] at hC
      have ew : (-1 : Int) + (((((t.sz.1 : Nat) : Int) + 1 - -1).toNat : Nat) : Int) = ((t.sz.1 : Nat) : Int) + 1 := by omega
      rw [ew] at hC
      refine ⟨trivial, hN _ ⟨C, s10, .shr (.int y), s12, s13, u10, .inr ⟨_, rfl⟩, u12, u13, hC.ext fun b hb => ?_, rfl⟩⟩
      obtain ⟨h1, h2, h3, h4⟩ := T.bx_in t 0 0 b hb
      exact cnt_row b.2 t.sz.1 y (by omega)
  rintro ρ ⟨C, s10, s11, s12, s13, u10, u11, u12, u13, hC, rfl⟩
  rw [rngD_len] at hC
  have eh : (-1 : Int) + (((((t.sz.2 : Nat) : Int) + 1 - -1).toNat : Nat) : Int) = ((t.sz.2 : Nat) : Int) + 1 := by omega
  rw [eh] at hC
  have hC := hC.ext (g := fun b => b.2.w * b.2.h) fun b hb => by
    obtain ⟨h1, h2, h3, h4⟩ := T.bx_in t 0 0 b hb
    exact cnt_end b.2 t.sz.2 (by omega)
  refine ⟨trivial, ?_⟩
  show b_law_t11 A _ [.shr (.scr ns), .own bag, .shr t.d, .shr (laidD A t pg P), .shr (.int (t.sz.1 : Nat)), .shr (.lst (linesD t.pic)), .shr (.int (t.sz.2 : Nat)), .shr (.dik (lnD (t.lns []))), .own (.dic (bxD (t.bx 0 0))), .own (.dic C), s10, s11, s12, s13, .emp]
  show forL (gN 10) (b_law_l5 A) _ ((lnD (t.lns [])).map fun p => kD p.1) [.shr (.scr ns), .own bag, .shr t.d, .shr (laidD A t pg P), .shr (.int (t.sz.1 : Nat)), .shr (.lst (linesD t.pic)), .shr (.int (t.sz.2 : Nat)), .shr (.dik (lnD (t.lns []))), .own (.dic (bxD (t.bx 0 0))), .own (.dic C), s10, s11, s12, s13, .emp]
  rw [ln_keys]
  refine for_inv (fun i ρ => ∃ s10, free s10 ∧ ρ = [.shr (.scr ns), .own bag, .shr t.d, .shr (laidD A t pg P), .shr (.int (t.sz.1 : Nat)), .shr (.lst (linesD t.pic)), .shr (.int (t.sz.2 : Nat)), .shr (.dik (lnD (t.lns []))), .own (.dic (bxD (t.bx 0 0))), .own (.dic C), s10, s11, s12, s13, .emp]) _ ?_ ?_ ⟨s10, u10, rfl⟩
  · rintro i d ρ N hd ⟨s10, u10, rfl⟩ hN
    rw [List.getElem?_map] at hd
    obtain ⟨b, hbi, rfl⟩ := Option.map_eq_some_iff.mp hd
    have hbm := List.mem_of_getElem? hbi
    have hbg := bx_get hg hbm
    obtain ⟨h1, h2, h3, h4⟩ := T.bx_in t 0 0 b hbm
    refine ⟨u10.un, ?_⟩
    show b_law_l5 A _ [.shr (.scr ns), .own bag, .shr t.d, .shr (laidD A t pg P), .shr (.int (t.sz.1 : Nat)), .shr (.lst (linesD t.pic)), .shr (.int (t.sz.2 : Nat)), .shr (.dik (lnD (t.lns []))), .own (.dic (bxD (t.bx 0 0))), .own (.dic C), .shr (.str b.1), s11, s12, s13, .emp]
    refine wo_in (hC.get b hbm) (wo_in hbg (wo_in hbg ⟨cm ⟨by omega, by omega⟩, rfl, rfl, ife (fun q => ?_) (hN _ ⟨.shr (.str b.1), .inr ⟨_, rfl⟩, rfl⟩)⟩))
    have q : (!D.eqv (.int ((b.2.w * b.2.h : Nat) : Int)) (.int ((b.2.w : Int) * (b.2.h : Int)))) = true := q
    have e : D.eqv (.int ((b.2.w * b.2.h : Nat) : Int)) (.int ((b.2.w : Int) * (b.2.h : Int))) = true := by rw [eqi]; push_cast; rfl
    rw [e] at q
    cases q
  rintro ρ ⟨s10, u10, rfl⟩
  refine ⟨trivial, ?_⟩
  show b_law_t12 A _ [.shr (.scr ns), .own bag, .shr t.d, .shr (laidD A t pg P), .shr (.int (t.sz.1 : Nat)), .shr (.lst (linesD t.pic)), .shr (.int (t.sz.2 : Nat)), .shr (.dik (lnD (t.lns []))), .own (.dic (bxD (t.bx 0 0))), .own (.dic C), s10, s11, s12, s13, .emp]
  refine ⟨rfl, bag, 1000000, rfl, hb, ⟨by decide, by decide⟩, fun r bag r0 r1 hb => ⟨rfl, ?_⟩⟩
  obtain ⟨off, ho⟩ : ∃ off : Int, off = 1 + r := ⟨_, rfl⟩
  rw [← ho]
  show b_law_t13 A _ [.shr (.scr ns), .own bag, .shr t.d, .shr (laidD A t pg P), .shr (.int (t.sz.1 : Nat)), .shr (.lst (linesD t.pic)), .shr (.int (t.sz.2 : Nat)), .shr (.dik (lnD (t.lns []))), .own (.dic (bxD (t.bx 0 0))), .own (.dic C), s10, s11, s12, s13, .shr (.int off)]
  refine ⟨sz _ rfl, sz _ rfl, sz _ rfl, sz _ rfl, sz _ rfl, sz _ rfl, sz _ rfl, ?_⟩
  have hall : ∀ d ∈ [D.tup [.int (((t.sz.1 : Nat) : Int) + off), .int 0], .tup [.int 0, .int (((t.sz.2 : Nat) : Int) + off)], .tup [.int (0 - 1 - off), .int 0], .tup [.int 0, .int (0 - 1 - off)], .tup [.int (t.sz.1 : Nat), .int (((t.sz.2 : Nat) : Int) + off)], .tup [.int (0 - off), .int (0 - off)]], ∃ x y : Int, d = .tup [.int x, .int y] ∧ ¬ (0 ≤ x ∧ x < (t.sz.1 : Nat) ∧ 0 ≤ y ∧ y < (t.sz.2 : Nat)) := by
    intro d hd
    simp only [List.mem_cons, List.not_mem_nil, or_false] at hd
    rcases hd with rfl | rfl | rfl | rfl | rfl | rfl
    all_goals exact ⟨_, _, rfl, by omega⟩
  refine for_inv (fun i ρ => ∃ s11 s12, free s11 ∧ free s12 ∧ ρ = [.shr (.scr ns), .own bag, .shr t.d, .shr (laidD A t pg P), .shr (.int (t.sz.1 : Nat)), .shr (.lst (linesD t.pic)), .shr (.int (t.sz.2 : Nat)), .shr (.dik (lnD (t.lns []))), .own (.dic (bxD (t.bx 0 0))), .own (.dic C), s10, s11, s12, s13, .shr (.int off)]) _ ?_ ?_ ⟨s11, s12, u11, u12, rfl⟩
  · rintro i d ρ N hd ⟨s11, s12, u11, u12, rfl⟩ hN
    obtain ⟨x, y, rfl, hout⟩ := hall d (List.mem_of_getElem? hd)
    refine ⟨rfl, u12.un, u11.un, rfl, ?_⟩
    show b_law_l6 A _ [.shr (.scr ns), .own bag, .shr t.d, .shr (laidD A t pg P), .shr (.int (t.sz.1 : Nat)), .shr (.lst (linesD t.pic)), .shr (.int (t.sz.2 : Nat)), .shr (.dik (lnD (t.lns []))), .own (.dic (bxD (t.bx 0 0))), .own (.dic C), s10, .shr (.int y), .shr (.int x), s13, .shr (.int off)]
    refine ⟨⟨rfl, rfl⟩, rfl, t, pg, P, x, y, rfl, hg, ?_⟩
    rw [hit_none (out_none t hout)]
    exact hN _ ⟨.shr (.int y), .shr (.int x), .inr ⟨_, rfl⟩, .inr ⟨_, rfl⟩, rfl⟩
  · rintro ρ ⟨s11, s12, u11, u12, rfl⟩
    exact ⟨trivial, h⟩

end K18
end L3

set_option Elab.async false
set_option linter.all false
set_option maxRecDepth 100000
set_option maxHeartbeats 0
namespace L3
namespace K18
open PySem PySem.Spec L2
open PyProof.Rows (b2i envOfC)
def top (i : Nat) : Stmt := PySem.Challenge.pw_pagesheld_k18_whole_points.main.body.getD i (.Pass ⟨0, 0, 0, 0⟩)
section
variable {P : Program} {w : World} {K : PySem.W.Frag} {mg : Str → Option Value} {base : Heap} {f : Addr} {A : Ad}
abbrev s_measure : Stmt := top 7
abbrev N_measure : List Str := ["label", "sizes", "width", "height", "wide", "high"]
theorem sc_measure : FnScope N_measure ["label", "sizes"] (defScope s_measure) := ⟨rfl, rfl, rfl, by decide +kernel, rfl, by decide +kernel, by decide +kernel⟩
theorem w_measure (m_len : mg "len" = none) : QB K (CxR 0 P w K mg base N_measure "measure" (defScope s_measure) f) (defBody s_measure) (b_measure A) :=
  have hR : ∀ i, Room 0 (CxR 0 P w K mg base N_measure "measure" (defScope s_measure) f i).A := fun i => i.2
  (bc (sif (tNot' (ttru (qv 1)))
 (bc (sif (QW.t (wor (t2 (cEq hR) (qv 0) qstr) (wo1 (t2 (cEq hR) (qv 0) qstr))))
 (b1 (sret (qtup (qac qint (qac qint qan)))))
 bn)
 (b1 (sret (qtup (qac (qlen (fun _ => m_len) (qac (qv 0) qan)) (qac qint qan))))))
 bn)
 (bc (sset 2 qint (hnd := fun _ => sc_measure.nd))
 (bc (sset 3 qint (hnd := fun _ => sc_measure.nd))
 (bc (sfor (iseq (qv 1)) (gtup (gsc (gn 4 (hnd := fun _ => sc_measure.nd)) (gsc (gn 5 (hnd := fun _ => sc_measure.nd)) gsn)))
 (b1 (sif (t2 (cEq hR) (qv 0) qstr)
 (bc (sset 2 (qadd (qv 2) (qv 4)) (hnd := fun _ => sc_measure.nd))
 (b1 (sif (t2 cGt (qv 5) (qv 3))
 (b1 (sset 3 (qv 5) (hnd := fun _ => sc_measure.nd)))
 bn)))
 (bc (sset 3 (qadd (qv 3) (qv 5)) (hnd := fun _ => sc_measure.nd))
 (b1 (sif (t2 cGt (qv 4) (qv 2))
 (b1 (sset 2 (qv 4) (hnd := fun _ => sc_measure.nd)))
 bn))))))
 (b1 (sret (qtup (qac (qv 2) (qac (qv 3) qan)))))))))
abbrev s_from_below : Stmt := top 8
abbrev N_from_below : List Str := ["root", "rows", "waiting", "node"]
theorem sc_from_below : FnScope N_from_below ["root"] (defScope s_from_below) := ⟨rfl, rfl, rfl, by decide +kernel, rfl, by decide +kernel, by decide +kernel⟩
theorem w_from_below  : QB K (CxR 0 P w K mg base N_from_below "from_below" (defScope s_from_below) f) (defBody s_from_below) (b_from_below A) :=
  have hR : ∀ i, Room 0 (CxR 0 P w K mg base N_from_below "from_below" (defScope s_from_below) f i).A := fun i => i.2
  (bc (ssetO 1 (olst qan) (hnd := fun _ => sc_from_below.nd))
 (bc (ssetO 2 (olst (qac (qv 0) qan)) (hnd := fun _ => sc_from_below.nd))
 (bc (swhile (ttru (qv 2)) (bc (sset 3 (qbm0 PySem.F.plainAttrs_list PySem.F.slot_list_pop PySem.F.type_list_pop (fun _ => mt_pop) simPop (qv 2)) (hnd := fun _ => sc_from_below.nd))
 (bc (sexpr (qbm PySem.F.plainAttrs_list PySem.F.slot_list_append PySem.F.type_list_append (fun _ => mt_append) simAppend (qv 1) (qac (qv 3) qan)))
 (b1 (sexpr (qbm PySem.F.plainAttrs_list PySem.F.slot_list_extend PySem.F.type_list_extend (fun _ => mt_extendX (K := K) rfl) simExtendT (qv 2) (qac (qix (qv 3) qint) qan)))))))
 (b1 (sret (QO.sh (orev (qv 1))))))))
abbrev s_rectangles : Stmt := top 9
abbrev N_rectangles : List Str := ["root", "sizes", "places", "waiting", "node", "x", "y", "width", "height", "beneath", "child"]
theorem sc_rectangles : FnScope N_rectangles ["root", "sizes"] (defScope s_rectangles) := ⟨rfl, rfl, rfl, by decide +kernel, rfl, by decide +kernel, by decide +kernel⟩
theorem w_rectangles  : QB K (CxR 0 P w K mg base N_rectangles "rectangles" (defScope s_rectangles) f) (defBody s_rectangles) (b_rectangles A) :=
  have hR : ∀ i, Room 0 (CxR 0 P w K mg base N_rectangles "rectangles" (defScope s_rectangles) f i).A := fun i => i.2
  (bc (ssetO 2 odicE (hnd := fun _ => sc_rectangles.nd))
 (bc (ssetO 3 (olst (qac (qtup (qac (qv 0) (qac qint (qac qint qan)))) qan)) (hnd := fun _ => sc_rectangles.nd))
 (bc (swhile (ttru (qv 3)) (bc (sasg (qbm0 PySem.F.plainAttrs_list PySem.F.slot_list_pop PySem.F.type_list_pop (fun _ => mt_pop) simPop (qv 3)) (gtup (gsc (gn 4 (hnd := fun _ => sc_rectangles.nd)) (gsc (gn 5 (hnd := fun _ => sc_rectangles.nd)) (gsc (gn 6 (hnd := fun _ => sc_rectangles.nd)) gsn)))))
 (bc (sasg (qdget hR (qv 1) (qix (qv 4) qint)) (gtup (gsc (gn 7 (hnd := fun _ => sc_rectangles.nd)) (gsc (gn 8 (hnd := fun _ => sc_rectangles.nd)) gsn))))
 (bc (sdput hR (qtup (qac (qv 5) (qac (qv 6) (qac (qv 7) (qac (qv 8) qan))))) (qv 2) (qix (qv 4) qint))
 (bc (ssetO 9 (olst qan) (hnd := fun _ => sc_rectangles.nd))
 (bc (sfor (iseq (qix (qv 4) qint)) (gn 10 (hnd := fun _ => sc_rectangles.nd))
 (bc (sexpr (qbm PySem.F.plainAttrs_list PySem.F.slot_list_append PySem.F.type_list_append (fun _ => mt_append) simAppend (qv 9) (qac (qtup (qac (qv 10) (qac (qv 5) (qac (qv 6) qan)))) qan)))
 (b1 (sif (t2 (cEq hR) (qix (qv 4) qint) qstr)
 (b1 (sset 5 (qadd (qv 5) (qix (qdget hR (qv 1) (qix (qv 10) qint)) qint)) (hnd := fun _ => sc_rectangles.nd)))
 (b1 (sset 6 (qadd (qv 6) (qix (qdget hR (qv 1) (qix (qv 10) qint)) qint)) (hnd := fun _ => sc_rectangles.nd)))))))
 (b1 (sexpr (qbm PySem.F.plainAttrs_list PySem.F.slot_list_extend PySem.F.type_list_extend (fun _ => mt_extend) simExtend (qv 3) (qac (QO.sh (orev (qv 9))) qan))))))))))
 (b1 (sfrz 2 (sret (qv 2)))))))
abbrev s_nodes_of : Stmt := top 13
abbrev N_nodes_of : List Str := ["root", "out", "waiting", "node"]
theorem sc_nodes_of : FnScope N_nodes_of ["root"] (defScope s_nodes_of) := ⟨rfl, rfl, rfl, by decide +kernel, rfl, by decide +kernel, by decide +kernel⟩
theorem w_nodes_of  : QB K (CxR 0 P w K mg base N_nodes_of "nodes_of" (defScope s_nodes_of) f) (defBody s_nodes_of) (b_nodes_of A) :=
  have hR : ∀ i, Room 0 (CxR 0 P w K mg base N_nodes_of "nodes_of" (defScope s_nodes_of) f i).A := fun i => i.2
  (bc (ssetO 1 (olst qan) (hnd := fun _ => sc_nodes_of.nd))
 (bc (ssetO 2 (olst (qac (qv 0) qan)) (hnd := fun _ => sc_nodes_of.nd))
 (bc (swhile (ttru (qv 2)) (bc (sset 3 (qbm0 PySem.F.plainAttrs_list PySem.F.slot_list_pop PySem.F.type_list_pop (fun _ => mt_pop) simPop (qv 2)) (hnd := fun _ => sc_nodes_of.nd))
 (bc (sexpr (qbm PySem.F.plainAttrs_list PySem.F.slot_list_append PySem.F.type_list_append (fun _ => mt_append) simAppend (qv 1) (qac (qv 3) qan)))
 (b1 (sexpr (qbm PySem.F.plainAttrs_list PySem.F.slot_list_extend PySem.F.type_list_extend (fun _ => mt_extendX (K := K) rfl) simExtendT (qv 2) (qac (qrevT (qix (qv 3) qint)) qan)))))))
 (b1 (sfrz 1 (sret (qv 1)))))))
abbrev s_Page___init__ : Stmt := inClass (top 14) 0
abbrev N_Page___init__ : List Str := ["self", "root", "nodes", "above", "order", "node", "below"]
theorem sc_Page___init__ : FnScope N_Page___init__ ["self", "root"] (defScope s_Page___init__) := ⟨rfl, rfl, rfl, by decide +kernel, rfl, by decide +kernel, by decide +kernel⟩
theorem w_Page___init__ (d_nodes_of : C3 P w K mg base 1 "nodes_of" [.shr] (sp_nodes_of A)) (m_len : mg "len" = none) (g_MOST_NODES : ∃ u, mg "MOST_NODES" = some u ∧ RelV (.int 400) u) (c_Page : Cls K A.Page) (n_Page_tree : NoAttr K A.Page "tree") (n_Page_nodes : NoAttr K A.Page "nodes") (n_Page_above : NoAttr K A.Page "above") (n_Page_order : NoAttr K A.Page "order") : QB K (CxR 1 P w K mg base N_Page___init__ "Page.__init__" (defScope s_Page___init__) f) (defBody s_Page___init__) (b_Page___init__ A) :=
  have hR : ∀ i, Room 1 (CxR 1 P w K mg base N_Page___init__ "Page.__init__" (defScope s_Page___init__) f i).A := fun i => i.2
  (bc (ssetO 2 odicE (hnd := fun _ => sc_Page___init__.nd))
 (bc (ssetO 3 (odispG (qdgc (qix (qv 1) qint) qnon qdgn)) (hnd := fun _ => sc_Page___init__.nd))
 (bc (ssetO 4 (olst qan) (hnd := fun _ => sc_Page___init__.nd))
 (bc (sfor (iseq (qcall (fun _ => d_nodes_of) hR (by decide) (qac (qv 1) qan))) (gn 5 (hnd := fun _ => sc_Page___init__.nd))
 (bc (sif (tdin hR (qix (qv 5) qint) (qv 2))
 (b1 snever)
 bn)
 (bc (sdput hR (qv 5) (qv 2) (qix (qv 5) qint))
 (bc (sexpr (qbm PySem.F.plainAttrs_list PySem.F.slot_list_append PySem.F.type_list_append (fun _ => mt_append) simAppend (qv 4) (qac (qix (qv 5) qint) qan)))
 (b1 (sfor (iseq (qix (qv 5) qint)) (gn 6 (hnd := fun _ => sc_Page___init__.nd))
 (b1 (sdput hR (qix (qv 5) qint) (qv 3) (qix (qv 6) qint)))))))))
 (bc (sif (t2 cGt (qlen (fun _ => m_len) (qac (qv 4) qan)) (qglob (fun _ => g_MOST_NODES) (fun _ _ => rp_int)))
 (b1 snever)
 bn)
 (bc (sfld c_Page n_Page_tree (qv 0) (qv 1))
 (bc (sfrz 2 (sfld c_Page n_Page_nodes (qv 0) (qv 2)))
 (bc (sfrz 3 (sfld c_Page n_Page_above (qv 0) (qv 3)))
 (b1 (sfrz 4 (sfld c_Page n_Page_order (qv 0) (qv 4))))))))))))
abbrev s_Page_top : Stmt := inClass (top 14) 1
abbrev N_Page_top : List Str := ["self"]
theorem sc_Page_top : FnScope N_Page_top ["self"] (defScope s_Page_top) := ⟨rfl, rfl, rfl, by decide +kernel, rfl, by decide +kernel, by decide +kernel⟩
theorem w_Page_top (c_Page : Cls K A.Page) (n_Page_tree : NoAttr K A.Page "tree") : QB K (CxR 0 P w K mg base N_Page_top "Page.top" (defScope s_Page_top) f) (defBody s_Page_top) (b_Page_top A) :=
  have hR : ∀ i, Room 0 (CxR 0 P w K mg base N_Page_top "Page.top" (defScope s_Page_top) f i).A := fun i => i.2
  (b1 (sret (qfld c_Page n_Page_tree (qv 0))))
abbrev s_Laid_measure_again : Stmt := inClass (top 10) 7
abbrev N_Laid_measure_again : List Str := ["self", "page", "pairs", "sizes", "measured", "mark", "label", "children", "pair", "child"]
theorem sc_Laid_measure_again : FnScope N_Laid_measure_again ["self", "page"] (defScope s_Laid_measure_again) := ⟨rfl, rfl, rfl, by decide +kernel, rfl, by decide +kernel, by decide +kernel⟩
theorem w_Laid_measure_again (p_Page_top : Pr3 P w K mg base 1 A.Page "top" .shr (sp_Page_top A)) (d_from_below : C3 P w K mg base 1 "from_below" [.shr] (sp_from_below A)) (m_tuple : mg "tuple" = none) (c_Laid : Cls K A.Laid) (n_Laid_pairs : NoAttr K A.Laid "pairs") (n_Laid_sizes : NoAttr K A.Laid "sizes") (d_measure : C3 P w K mg base 1 "measure" [.shr, .shr] (sp_measure A)) (n_Laid_kept_page : NoAttr K A.Laid "kept_page") (d_rectangles : C3 P w K mg base 1 "rectangles" [.shr, .shr] (sp_rectangles A)) (n_Laid_places : NoAttr K A.Laid "places") (m_list : mg "list" = none) (n_Laid_marks : NoAttr K A.Laid "marks") : QB K (CxR 2 P w K mg base N_Laid_measure_again "Laid.measure_again" (defScope s_Laid_measure_again) f) (defBody s_Laid_measure_again) (b_Laid_measure_again A) :=
  have hR : ∀ i, Room 2 (CxR 2 P w K mg base N_Laid_measure_again "Laid.measure_again" (defScope s_Laid_measure_again) f i).A := fun i => i.2
  (bc (ssetO 2 odicE (hnd := fun _ => sc_Laid_measure_again.nd))
 (bc (ssetO 3 odicE (hnd := fun _ => sc_Laid_measure_again.nd))
 (bc (ssetO 4 (olst qan) (hnd := fun _ => sc_Laid_measure_again.nd))
 (bc (sfor (iseq (qcall (fun _ => d_from_below) hR (by decide) (qac (qprop (fun _ => p_Page_top) hR (by decide) (qv 1)) qan))) (gtup (gsc (gn 5 (hnd := fun _ => sc_Laid_measure_again.nd)) (gsc (gn 6 (hnd := fun _ => sc_Laid_measure_again.nd)) (gsc (gn 7 (hnd := fun _ => sc_Laid_measure_again.nd)) gsn))))
 (bc (sset 8 (qtup (qac (qv 6) (qac (qtupC (fun _ => m_tuple) (qac (QO.sh (olc [("child", 9)] (iseq (qv 7)) (gn 9 (hnd := fun _ => sc_Laid_measure_again.nd)) tsn (qdget (fun i => hR i.1) (qv 3) (qix (qv 9) qint)) (fun _ => blkOk_by (own := [("child", 9)]) (N := N_Laid_measure_again) (sc := defScope s_Laid_measure_again) (by decide +kernel)) (hnd := fun _ => sc_Laid_measure_again.nd))) qan)) qan))) (hnd := fun _ => sc_Laid_measure_again.nd))
 (bc (sdput hR (qv 8) (qv 2) (qv 5))
 (b1 (sif (t2 (cEq hR) (qdg1 hR (qfld c_Laid n_Laid_pairs (qv 0)) (qv 5)) (qv 8))
 (b1 (sdput hR (qdget hR (qfld c_Laid n_Laid_sizes (qv 0)) (qv 5)) (qv 3) (qv 5)))
 (bc (sdput hR (qcall (fun _ => d_measure) hR (by decide) (qac (qv 6) (qac (qix (qv 8) qint) qan))) (qv 3) (qv 5))
 (b1 (sexpr (qbm PySem.F.plainAttrs_list PySem.F.slot_list_append PySem.F.type_list_append (fun _ => mt_append) simAppend (qv 4) (qac (qv 5) qan))))))))))
 (bc (sfld c_Laid n_Laid_kept_page (qv 0) (qv 1))
 (bc (sfrz 2 (sfld c_Laid n_Laid_pairs (qv 0) (qv 2)))
 (bc (sfrz 3 (sfld c_Laid n_Laid_sizes (qv 0) (qv 3)))
 (bc (sfld c_Laid n_Laid_places (qv 0) (qcall (fun _ => d_rectangles) hR (by decide) (qac (qprop (fun _ => p_Page_top) hR (by decide) (qv 1)) (qac (qv 3) qan))))
 (bc (sfld c_Laid n_Laid_marks (qv 0) (QO.sh (olistK (fun _ => rfl) (fun _ => m_list) (qac (qfld c_Laid n_Laid_places (qv 0)) qan))))
 (b1 (sret (qtupC (fun _ => m_tuple) (qac (qv 4) qan)))))))))))))
abbrev s_Laid___init__ : Stmt := inClass (top 10) 0
abbrev N_Laid___init__ : List Str := ["self", "page"]
theorem sc_Laid___init__ : FnScope N_Laid___init__ ["self", "page"] (defScope s_Laid___init__) := ⟨rfl, rfl, rfl, by decide +kernel, rfl, by decide +kernel, by decide +kernel⟩
theorem w_Laid___init__ (c_Laid : Cls K A.Laid) (n_Laid_kept_page : NoAttr K A.Laid "kept_page") (n_Laid_pairs : NoAttr K A.Laid "pairs") (n_Laid_sizes : NoAttr K A.Laid "sizes") (n_Laid_places : NoAttr K A.Laid "places") (n_Laid_marks : NoAttr K A.Laid "marks") (m_Laid_measure_again : Me3 P w K mg base 3 A.Laid "measure_again" [.par, .shr] (sp_Laid_measure_again A)) : QB K (CxR 3 P w K mg base N_Laid___init__ "Laid.__init__" (defScope s_Laid___init__) f) (defBody s_Laid___init__) (b_Laid___init__ A) :=
  have hR : ∀ i, Room 3 (CxR 3 P w K mg base N_Laid___init__ "Laid.__init__" (defScope s_Laid___init__) f i).A := fun i => i.2
  (bc (sfld c_Laid n_Laid_kept_page (qv 0) (qv 1))
 (bc (sfld c_Laid n_Laid_pairs (qv 0) (QO.sh odicE))
 (bc (sfld c_Laid n_Laid_sizes (qv 0) (QO.sh odicE))
 (bc (sfld c_Laid n_Laid_places (qv 0) (QO.sh odicE))
 (bc (sfld c_Laid n_Laid_marks (qv 0) (qlst qan))
 (b1 (sexpr (qmeth (fun _ => m_Laid_measure_again) hR (by decide) (qv 0) (qac (qv 1) qan)))))))))
abbrev s_Laid___getitem__ : Stmt := inClass (top 10) 3
abbrev N_Laid___getitem__ : List Str := ["self", "mark"]
theorem sc_Laid___getitem__ : FnScope N_Laid___getitem__ ["self", "mark"] (defScope s_Laid___getitem__) := ⟨rfl, rfl, rfl, by decide +kernel, rfl, by decide +kernel, by decide +kernel⟩
theorem w_Laid___getitem__ (c_Laid : Cls K A.Laid) (n_Laid_places : NoAttr K A.Laid "places") : QB K (CxR 0 P w K mg base N_Laid___getitem__ "Laid.__getitem__" (defScope s_Laid___getitem__) f) (defBody s_Laid___getitem__) (b_Laid___getitem__ A) :=
  have hR : ∀ i, Room 0 (CxR 0 P w K mg base N_Laid___getitem__ "Laid.__getitem__" (defScope s_Laid___getitem__) f i).A := fun i => i.2
  (bc (sif (tdnotin hR (qv 1) (qfld c_Laid n_Laid_places (qv 0)))
 (b1 snever)
 bn)
 (b1 (sret (qdget hR (qfld c_Laid n_Laid_places (qv 0)) (qv 1)))))
abbrev s_Laid_hit : Stmt := inClass (top 10) 5
abbrev N_Laid_hit : List Str := ["self", "x", "y", "found", "mark", "left", "upper", "width", "height"]
theorem sc_Laid_hit : FnScope N_Laid_hit ["self", "x", "y"] (defScope s_Laid_hit) := ⟨rfl, rfl, rfl, by decide +kernel, rfl, by decide +kernel, by decide +kernel⟩
theorem w_Laid_hit (c_Laid : Cls K A.Laid) (n_Laid_marks : NoAttr K A.Laid "marks") (n_Laid_places : NoAttr K A.Laid "places") : QB K (CxR 0 P w K mg base N_Laid_hit "Laid.hit" (defScope s_Laid_hit) f) (defBody s_Laid_hit) (b_Laid_hit A) :=
  have hR : ∀ i, Room 0 (CxR 0 P w K mg base N_Laid_hit "Laid.hit" (defScope s_Laid_hit) f i).A := fun i => i.2
  (bc (sset 3 qnon (hnd := fun _ => sc_Laid_hit.nd))
 (bc (sfor (iseq (qfld c_Laid n_Laid_marks (qv 0))) (gn 4 (hnd := fun _ => sc_Laid_hit.nd))
 (bc (sasg (qdget hR (qfld c_Laid n_Laid_places (qv 0)) (qv 4)) (gtup (gsc (gn 5 (hnd := fun _ => sc_Laid_hit.nd)) (gsc (gn 6 (hnd := fun _ => sc_Laid_hit.nd)) (gsc (gn 7 (hnd := fun _ => sc_Laid_hit.nd)) (gsc (gn 8 (hnd := fun _ => sc_Laid_hit.nd)) gsn))))))
 (b1 (sif (QW.t (wa (t3c cLe cLt (qv 5) (qv 1) (qadd (qv 5) (qv 7))) (wa1 (t3c cLe cLt (qv 6) (qv 2) (qadd (qv 6) (qv 8))))))
 (b1 (sset 3 (qv 4) (hnd := fun _ => sc_Laid_hit.nd)))
 bn))))
 (b1 (sret (qv 3)))))
abbrev s__law_mixed : Stmt := top 16
abbrev N__law_mixed : List Str := ["number", "turn", "first", "second"]
theorem sc__law_mixed : FnScope N__law_mixed ["number", "turn"] (defScope s__law_mixed) := ⟨rfl, rfl, rfl, by decide +kernel, rfl, by decide +kernel, by decide +kernel⟩
theorem w__law_mixed (m_int : mg "int" = none) : QB K (CxR 0 P w K mg base N__law_mixed "_law_mixed" (defScope s__law_mixed) f) (defBody s__law_mixed) (b__law_mixed A) :=
  have hR : ∀ i, Room 0 (CxR 0 P w K mg base N__law_mixed "_law_mixed" (defScope s__law_mixed) f i).A := fun i => i.2
  (bc (sset 2 (qmod (qint1 (fun _ => m_int) (qac (qadd (qmul (qadd (qv 0) qint) qint) (qmul (qadd (qv 1) qint) qint)) qan)) qint) (hnd := fun _ => sc__law_mixed.nd))
 (bc (sset 3 (qmod (qint1 (fun _ => m_int) (qac (qadd (qadd (qmul (qv 2) (qv 2)) (qmul (qv 2) qint)) (qmul (qadd (qv 1) qint) qint)) qan)) qint) (hnd := fun _ => sc__law_mixed.nd))
 (b1 (sret (qmod (qint1 (fun _ => m_int) (qac (qadd (qadd (qfdiv (qv 3) qint) (qmul (qv 3) qint)) (qv 1)) qan)) qint)))))
abbrev s__law_bag : Stmt := top 17
abbrev N__law_bag : List Str := ["script", "numbers", "seed", "at", "cell"]
theorem sc__law_bag : FnScope N__law_bag ["script"] (defScope s__law_bag) := ⟨rfl, rfl, rfl, by decide +kernel, rfl, by decide +kernel, by decide +kernel⟩
theorem w__law_bag (m_int : mg "int" = none) (m_len : mg "len" = none) (m_enumerate : mg "enumerate" = none) (m_abs : mg "abs" = none) : QB K (CxR 0 P w K mg base N__law_bag "_law_bag" (defScope s__law_bag) f) (defBody s__law_bag) (b__law_bag A) :=
  have hR : ∀ i, Room 0 (CxR 0 P w K mg base N__law_bag "_law_bag" (defScope s__law_bag) f i).A := fun i => i.2
  (bc (slc 1 [("cell", 4)] (iseq (qv 0)) (gn 4 (hnd := fun _ => sc__law_bag.nd)) tsn (qint1 (fun _ => m_int) (qac (qv 4) qan)) (fun _ => blkOk_by (own := [("cell", 4)]) (N := N__law_bag) (sc := defScope s__law_bag) (by decide +kernel)) (fun _ => sw_true rfl rfl rfl (by decide +kernel)) (hnd := fun _ => sc__law_bag.nd))
 (bc (sset 2 (qlen (fun _ => m_len) (qac (qv 1) qan)) (hnd := fun _ => sc__law_bag.nd))
 (bc (sfor (ienum (fun _ => m_enumerate) (qac (qsl (qv 1) qno (qpart qint)) qan)) (gtup (gsc (gn 3 (hnd := fun _ => sc__law_bag.nd)) (gsc (gn 4 (hnd := fun _ => sc__law_bag.nd)) gsn)))
 (b1 (sset 2 (qmod (qint1 (fun _ => m_int) (qac (qadd (qadd (qmul (qv 2) qint) (qmod (qint1 (fun _ => m_int) (qac (qabs (fun _ => m_abs) (qac (qv 4) qan)) qan)) qint)) (qmul (qadd (qv 3) qint) (q2 cLt (qv 4) qint))) qan)) qint) (hnd := fun _ => sc__law_bag.nd))))
 (b1 (sretO (olst (qac (qv 1) (qac qint (qac qint (qac qint (qac (qv 2) qan)))))))))))
abbrev s__law_pick : Stmt := top 18
abbrev N__law_pick : List Str := ["bag", "many", "turn", "worth", "cell", "great"]
theorem sc__law_pick : FnScope N__law_pick ["bag", "many"] (defScope s__law_pick) := ⟨rfl, rfl, rfl, by decide +kernel, rfl, by decide +kernel, by decide +kernel⟩
theorem w__law_pick (m_int : mg "int" = none) (m_len : mg "len" = none) (m_abs : mg "abs" = none) (d__law_mixed : C3 P w K mg base 1 "_law_mixed" [.shr, .shr] (sp__law_mixed A)) : QB K (CxR 1 P w K mg base N__law_pick "_law_pick" (defScope s__law_pick) f) (defBody s__law_pick) (b__law_pick A) :=
  have hR : ∀ i, Room 1 (CxR 1 P w K mg base N__law_pick "_law_pick" (defScope s__law_pick) f i).A := fun i => i.2
  (bc (sset 2 (qix (qv 0) qint) (hnd := fun _ => sc__law_pick.nd))
 (bc (sput (qadd (qv 2) qint) (qv 0) qint)
 (bc (sif (t2 cGt (qix (qv 0) qint) qint)
 (bc (sset 3 (qmod (qint1 (fun _ => m_int) (qac (qix (qv 0) qint) qan)) (qv 1)) (hnd := fun _ => sc__law_pick.nd))
 (bc (sput (qfdiv (qix (qv 0) qint) (qv 1)) (qv 0) qint)
 (b1 (sret (qv 3)))))
 bn)
 (bc (sif (t2 cLt (qix (qv 0) qint) (qlen (fun _ => m_len) (qac (qix (qv 0) qint) qan)))
 (bc (sset 4 (qix (qix (qv 0) qint) (qix (qv 0) qint)) (hnd := fun _ => sc__law_pick.nd))
 (bc (sput (qadd (qix (qv 0) qint) qint) (qv 0) qint)
 (bc (sset 5 (qabs (fun _ => m_abs) (qac (qv 4) qan)) (hnd := fun _ => sc__law_pick.nd))
 (bc (sif (t2 cGe (qv 5) (qpow qint qint))
 (bc (sput (qfdiv (qv 5) (qv 1)) (qv 0) qint)
 (b1 (sret (qmod (qint1 (fun _ => m_int) (qac (qv 5) qan)) (qv 1)))))
 bn)
 (b1 (sret (qmod (qint1 (fun _ => m_int) (qac (qcall (fun _ => d__law_mixed) hR (by decide) (qac (qadd (qadd (qv 5) (qv 5)) (q2 cLt (qv 4) qint)) (qac (qv 2) qan))) qan)) (qv 1))))))))
 bn)
 (b1 (sret (qmod (qint1 (fun _ => m_int) (qac (qcall (fun _ => d__law_mixed) hR (by decide) (qac (qix (qv 0) qint) (qac (qv 2) qan))) qan)) (qv 1))))))))
abbrev s__law_choice : Stmt := top 19
abbrev N__law_choice : List Str := ["bag", "things"]
theorem sc__law_choice : FnScope N__law_choice ["bag", "things"] (defScope s__law_choice) := ⟨rfl, rfl, rfl, by decide +kernel, rfl, by decide +kernel, by decide +kernel⟩
theorem w__law_choice (m_len : mg "len" = none) (d__law_pick : C3 P w K mg base 2 "_law_pick" [.par, .shr] (sp__law_pick A)) : QB K (CxR 2 P w K mg base N__law_choice "_law_choice" (defScope s__law_choice) f) (defBody s__law_choice) (b__law_choice A) :=
  have hR : ∀ i, Room 2 (CxR 2 P w K mg base N__law_choice "_law_choice" (defScope s__law_choice) f i).A := fun i => i.2
  (b1 (sret (qix (qv 1) (qcall (fun _ => d__law_pick) hR (by decide) (qac (qv 0) (qac (qlen (fun _ => m_len) (qac (qv 1) qan)) qan))))))
abbrev s__law_text : Stmt := top 20
abbrev N__law_text : List Str := ["bag", "least", "most", "signs", "told", "step"]
theorem sc__law_text : FnScope N__law_text ["bag", "least", "most"] (defScope s__law_text) := ⟨rfl, rfl, rfl, by decide +kernel, rfl, by decide +kernel, by decide +kernel⟩
theorem w__law_text (d__law_pick : C3 P w K mg base 2 "_law_pick" [.par, .shr] (sp__law_pick A)) (m_range : mg "range" = none) (m_len : mg "len" = none) : QB K (CxR 2 P w K mg base N__law_text "_law_text" (defScope s__law_text) f) (defBody s__law_text) (b__law_text A) :=
  have hR : ∀ i, Room 2 (CxR 2 P w K mg base N__law_text "_law_text" (defScope s__law_text) f i).A := fun i => i.2
  (bc (sset 3 qstr (hnd := fun _ => sc__law_text.nd))
 (bc (sset 3 (qadd (qv 3) qstr) (hnd := fun _ => sc__law_text.nd))
 (bc (sset 4 qstr (hnd := fun _ => sc__law_text.nd))
 (bc (sfor (irng1 (fun _ => m_range) (qac (qadd (qv 1) (qcall (fun _ => d__law_pick) hR (by decide) (qac (qv 0) (qac (qadd (qsub (qv 2) (qv 1)) qint) qan)))) qan)) (gn 5 (hnd := fun _ => sc__law_text.nd))
 (b1 (sset 4 (qadd (qv 4) (qix (qv 3) (qcall (fun _ => d__law_pick) hR (by decide) (qac (qv 0) (qac (qlen (fun _ => m_len) (qac (qv 3) qan)) qan))))) (hnd := fun _ => sc__law_text.nd))))
 (b1 (sret (qv 4)))))))
abbrev s__law_label : Stmt := top 21
abbrev N__law_label : List Str := ["bag", "way"]
theorem sc__law_label : FnScope N__law_label ["bag"] (defScope s__law_label) := ⟨rfl, rfl, rfl, by decide +kernel, rfl, by decide +kernel, by decide +kernel⟩
theorem w__law_label (d__law_pick : C3 P w K mg base 2 "_law_pick" [.par, .shr] (sp__law_pick A)) (m_str : mg "str" = none) (d__law_text : C3 P w K mg base 3 "_law_text" [.par, .shr, .shr] (sp__law_text A)) (d__law_choice : C3 P w K mg base 3 "_law_choice" [.par, .shr] (sp__law_choice A)) : QB K (CxR 3 P w K mg base N__law_label "_law_label" (defScope s__law_label) f) (defBody s__law_label) (b__law_label A) :=
  have hR : ∀ i, Room 3 (CxR 3 P w K mg base N__law_label "_law_label" (defScope s__law_label) f i).A := fun i => i.2
  (bc (sset 1 (qcall (fun _ => d__law_pick) hR (by decide) (qac (qv 0) (qac qint qan))) (hnd := fun _ => sc__law_label.nd))
 (bc (sif (t2 cLt (qv 1) qint)
 (b1 (sret qstr))
 bn)
 (bc (sif (t2 (cEq hR) (qv 1) qint)
 (b1 (sret qstr))
 bn)
 (bc (sif (t2 cLt (qv 1) qint)
 (b1 (sret (qadd qstr (qstr1 (fun _ => m_str) (qac (qcall (fun _ => d__law_pick) hR (by decide) (qac (qv 0) (qac qint qan))) qan)))))
 bn)
 (bc (sif (t2 (cEq hR) (qv 1) qint)
 (b1 (sret (qadd qstr (qcall (fun _ => d__law_text) hR (by decide) (qac (qv 0) (qac qint (qac qint qan)))))))
 bn)
 (bc (sif (t2 (cEq hR) (qv 1) qint)
 (b1 (sret (qcall (fun _ => d__law_choice) hR (by decide) (qac (qv 0) (qac (qlst (qac qstr (qac qstr (qac qstr (qac qstr (qac qstr (qac qstr (qac qstr (qac qstr (qac qstr (qac qstr (qac qstr (qac qstr (qac qstr (qac qstr (qac qstr (qac qstr (qac qstr (qac qstr (qac qstr qan)))))))))))))))))))) qan)))))
 bn)
 (b1 (sret (qcall (fun _ => d__law_text) hR (by decide) (qac (qv 0) (qac qint (qac qint qan))))))))))))
abbrev s__law_marks : Stmt := top 22
abbrev N__law_marks : List Str := ["bag", "count", "most", "left", "right", "step", "start", "k"]
theorem sc__law_marks : FnScope N__law_marks ["bag", "count"] (defScope s__law_marks) := ⟨rfl, rfl, rfl, by decide +kernel, rfl, by decide +kernel, by decide +kernel⟩
theorem w__law_marks (d__law_pick : C3 P w K mg base 2 "_law_pick" [.par, .shr] (sp__law_pick A)) (d__law_text : C3 P w K mg base 3 "_law_text" [.par, .shr, .shr] (sp__law_text A)) (m_range : mg "range" = none) (m_int : mg "int" = none) (m_str : mg "str" = none) : QB K (CxR 3 P w K mg base N__law_marks "_law_marks" (defScope s__law_marks) f) (defBody s__law_marks) (b__law_marks A) :=
  have hR : ∀ i, Room 3 (CxR 3 P w K mg base N__law_marks "_law_marks" (defScope s__law_marks) f i).A := fun i => i.2
  (bc (sset 2 (qix (qlst (qac qint (qac qint (qac qint (qac qint qan))))) (qcall (fun _ => d__law_pick) hR (by decide) (qac (qv 0) (qac qint qan)))) (hnd := fun _ => sc__law_marks.nd))
 (bc (sset 3 (qcall (fun _ => d__law_text) hR (by decide) (qac (qv 0) (qac qint (qac (qv 2) qan)))) (hnd := fun _ => sc__law_marks.nd))
 (bc (sset 4 (qcall (fun _ => d__law_text) hR (by decide) (qac (qv 0) (qac qint (qac (qv 2) qan)))) (hnd := fun _ => sc__law_marks.nd))
 (bc (sset 5 (qadd qint (qcall (fun _ => d__law_pick) hR (by decide) (qac (qv 0) (qac qint qan)))) (hnd := fun _ => sc__law_marks.nd))
 (bc (sset 6 (qcall (fun _ => d__law_pick) hR (by decide) (qac (qv 0) (qac qint qan))) (hnd := fun _ => sc__law_marks.nd))
 (b1 (sret (QO.sh (olc [("k", 7)] (irng1 (fun _ => m_range) (qac (qv 1) qan)) (gn 7 (hnd := fun _ => sc__law_marks.nd)) tsn (qadd (qadd (qv 3) (qstr1 (fun _ => m_str) (qac (qmod (qint1 (fun _ => m_int) (qac (qadd (qv 6) (qmul (qv 7) (qv 5))) qan)) qint) qan))) (qv 4)) (fun _ => blkOk_by (own := [("k", 7)]) (N := N__law_marks) (sc := defScope s__law_marks) (by decide +kernel)) (hnd := fun _ => sc__law_marks.nd))))))))))
abbrev s__law_flat : Stmt := top 23
abbrev N__law_flat : List Str := ["bag", "marks", "deepest", "flat", "mark", "most"]
theorem sc__law_flat : FnScope N__law_flat ["bag", "marks", "deepest"] (defScope s__law_flat) := ⟨rfl, rfl, rfl, by decide +kernel, rfl, by decide +kernel, by decide +kernel⟩
theorem w__law_flat (d__law_label : C3 P w K mg base 4 "_law_label" [.par] (sp__law_label A)) (d__law_pick : C3 P w K mg base 2 "_law_pick" [.par, .shr] (sp__law_pick A)) : QB K (CxR 4 P w K mg base N__law_flat "_law_flat" (defScope s__law_flat) f) (defBody s__law_flat) (b__law_flat A) :=
  have hR : ∀ i, Room 4 (CxR 4 P w K mg base N__law_flat "_law_flat" (defScope s__law_flat) f i).A := fun i => i.2
  (bc (ssetO 3 (olst (qac (qtup (qac (qix (qv 1) qint) (qac (qcall (fun _ => d__law_label) hR (by decide) (qac (qv 0) qan)) (qac qint qan)))) qan)) (hnd := fun _ => sc__law_flat.nd))
 (bc (sfor (iseq (qsl (qv 1) (qpart qint) qno)) (gn 4 (hnd := fun _ => sc__law_flat.nd))
 (bc (sset 5 (qadd (qix (qix (qv 3) (qneg qint)) qint) qint) (hnd := fun _ => sc__law_flat.nd))
 (bc (sif (t2 cGt (qv 5) (qv 2))
 (b1 (sset 5 (qv 2) (hnd := fun _ => sc__law_flat.nd)))
 bn)
 (b1 (sexpr (qbm PySem.F.plainAttrs_list PySem.F.slot_list_append PySem.F.type_list_append (fun _ => mt_append) simAppend (qv 3) (qac (qtup (qac (qv 4) (qac (qcall (fun _ => d__law_label) hR (by decide) (qac (qv 0) qan)) (qac (qadd qint (qcall (fun _ => d__law_pick) hR (by decide) (qac (qv 0) (qac (qv 5) qan)))) qan)))) qan)))))))
 (b1 (sfrz 3 (sret (qv 3))))))
abbrev s__law_grown : Stmt := top 24
abbrev N__law_grown : List Str := ["flat", "ready", "k", "beneath"]
theorem sc__law_grown : FnScope N__law_grown ["flat"] (defScope s__law_grown) := ⟨rfl, rfl, rfl, by decide +kernel, rfl, by decide +kernel, by decide +kernel⟩
theorem w__law_grown (m_len : mg "len" = none) (m_range : mg "range" = none) (m_tuple : mg "tuple" = none) : QB K (CxR 0 P w K mg base N__law_grown "_law_grown" (defScope s__law_grown) f) (defBody s__law_grown) (b__law_grown A) :=
  have hR : ∀ i, Room 0 (CxR 0 P w K mg base N__law_grown "_law_grown" (defScope s__law_grown) f i).A := fun i => i.2
  (bc (ssetO 1 (olst qan) (hnd := fun _ => sc__law_grown.nd))
 (bc (sfor (irng3 (fun _ => m_range) (qac (qsub (qlen (fun _ => m_len) (qac (qv 0) qan)) qint) (qac (qneg qint) (qac (qneg qint) qan)))) (gn 2 (hnd := fun _ => sc__law_grown.nd))
 (bc (ssetO 3 (olst qan) (hnd := fun _ => sc__law_grown.nd))
 (bc (swhile (QW.t (wa (ttru (qv 1)) (wa1 (t2 cGt (qix (qix (qv 1) (qneg qint)) qint) (qix (qix (qv 0) (qv 2)) qint))))) (b1 (sexpr (qbm PySem.F.plainAttrs_list PySem.F.slot_list_append PySem.F.type_list_append (fun _ => mt_append) simAppend (qv 3) (qac (qix (qbm0 PySem.F.plainAttrs_list PySem.F.slot_list_pop PySem.F.type_list_pop (fun _ => mt_pop) simPop (qv 1)) qint) qan)))))
 (b1 (sexpr (qbm PySem.F.plainAttrs_list PySem.F.slot_list_append PySem.F.type_list_append (fun _ => mt_append) simAppend (qv 1) (qac (qtup (qac (qix (qix (qv 0) (qv 2)) qint) (qac (qtup (qac (qix (qix (qv 0) (qv 2)) qint) (qac (qix (qix (qv 0) (qv 2)) qint) (qac (qtupC (fun _ => m_tuple) (qac (qv 3) qan)) qan)))) qan))) qan)))))))
 (b1 (sret (qix (qix (qv 1) qint) qint)))))
abbrev s__law_picture : Stmt := top 25
abbrev N__law_picture : List Str := ["node", "inner", "lines", "most", "wide", "told", "y", "line", "child"]
theorem sc__law_picture : FnScope N__law_picture ["node"] (defScope s__law_picture) := ⟨rfl, rfl, rfl, by decide +kernel, rfl, by decide +kernel, by decide +kernel⟩
theorem w__law_picture {lv : Nat} {sm : S3} (m_len : mg "len" = none) (me : C3 P w K mg base lv "_law_picture" [.shr] sm) (m_range : mg "range" = none) (m_sum : mg "sum" = none) : QB K (CxR lv P w K mg base N__law_picture "_law_picture" (defScope s__law_picture) f) (defBody s__law_picture) (b__law_picture A sm) :=
  have hR : ∀ i, Room lv (CxR lv P w K mg base N__law_picture "_law_picture" (defScope s__law_picture) f i).A := fun i => i.2
  (bc (sif (t2 (cEq hR) (qlen (fun _ => m_len) (qac (qix (qv 0) qint) qan)) qint)
 (bc (sif (QW.t (wor (t2 (cEq hR) (qix (qv 0) qint) qstr) (wo1 (t2 (cEq hR) (qix (qv 0) qint) qstr))))
 (b1 (sret (qtup (qac qint (qac (qlst qan) qan)))))
 bn)
 (b1 (sret (qtup (qac (qlen (fun _ => m_len) (qac (qix (qv 0) qint) qan)) (qac (qlst (qac (qmul (qlst (qac (qix (qv 0) qint) qan)) (qlen (fun _ => m_len) (qac (qix (qv 0) qint) qan))) qan)) qan))))))
 bn)
 (bc (slc 1 [("child", 8)] (iseq (qix (qv 0) qint)) (gn 8 (hnd := fun _ => sc__law_picture.nd)) tsn (qcall (fun _ => me) (fun i => hR i.1) (Nat.le_refl _) (qac (qv 8) qan)) (fun _ => blkOk_by (own := [("child", 8)]) (N := N__law_picture) (sc := defScope s__law_picture) (by decide +kernel)) (fun _ => sw_true rfl rfl rfl (by decide +kernel)) (hnd := fun _ => sc__law_picture.nd))
 (bc (ssetO 2 (olst qan) (hnd := fun _ => sc__law_picture.nd))
 (bc (sset 3 qint (hnd := fun _ => sc__law_picture.nd))
 (bc (sif (t2 (cEq hR) (qix (qv 0) qint) qstr)
 (bc (sfor (iseq (qv 1)) (gtup (gsc (gn 4 (hnd := fun _ => sc__law_picture.nd)) (gsc (gn 5 (hnd := fun _ => sc__law_picture.nd)) gsn)))
 (b1 (sif (t2 cGt (qlen (fun _ => m_len) (qac (qv 5) qan)) (qv 3))
 (b1 (sset 3 (qlen (fun _ => m_len) (qac (qv 5) qan)) (hnd := fun _ => sc__law_picture.nd)))
 bn)))
 (bc (sfor (irng1 (fun _ => m_range) (qac (qv 3) qan)) (gn 6 (hnd := fun _ => sc__law_picture.nd))
 (bc (ssetO 7 (olst qan) (hnd := fun _ => sc__law_picture.nd))
 (bc (sfor (iseq (qv 1)) (gtup (gsc (gn 4 (hnd := fun _ => sc__law_picture.nd)) (gsc (gn 5 (hnd := fun _ => sc__law_picture.nd)) gsn)))
 (b1 (sexpr (qbm PySem.F.plainAttrs_list PySem.F.slot_list_extend PySem.F.type_list_extend (fun _ => mt_extend) simExtend (qv 7) (qac (qif (t2 cLt (qv 6) (qlen (fun _ => m_len) (qac (qv 5) qan))) (qix (qv 5) (qv 6)) (qmul (qlst (qac (qix (qv 0) qint) qan)) (qv 4))) qan)))))
 (b1 (sfrz 7 (sexpr (qbm PySem.F.plainAttrs_list PySem.F.slot_list_append PySem.F.type_list_append (fun _ => mt_append) simAppend (qv 2) (qac (qv 7) qan))))))))
 (b1 (sfrz 2 (sret (qtup (qac (qsum (fun _ => rfl) (fun _ => m_sum) (qac (QO.sh (olc [("wide", 4), ("told", 5)] (iseq (qv 1)) (gtup (gsc (gn 4 (hnd := fun _ => sc__law_picture.nd)) (gsc (gn 5 (hnd := fun _ => sc__law_picture.nd)) gsn))) tsn (qv 4) (fun _ => blkOk_by (own := [("wide", 4), ("told", 5)]) (N := N__law_picture) (sc := defScope s__law_picture) (by decide +kernel)) (hnd := fun _ => sc__law_picture.nd))) qan)) (qac (qv 2) qan))))))))
 bn)
 (bc (sfor (iseq (qv 1)) (gtup (gsc (gn 4 (hnd := fun _ => sc__law_picture.nd)) (gsc (gn 5 (hnd := fun _ => sc__law_picture.nd)) gsn)))
 (b1 (sif (t2 cGt (qv 4) (qv 3))
 (b1 (sset 3 (qv 4) (hnd := fun _ => sc__law_picture.nd)))
 bn)))
 (bc (sfor (iseq (qv 1)) (gtup (gsc (gn 4 (hnd := fun _ => sc__law_picture.nd)) (gsc (gn 5 (hnd := fun _ => sc__law_picture.nd)) gsn)))
 (b1 (sexpr (qbm PySem.F.plainAttrs_list PySem.F.slot_list_extend PySem.F.type_list_extend (fun _ => mt_extend) simExtend (qv 2) (qac (QO.sh (olc [("line", 7)] (iseq (qv 5)) (gn 7 (hnd := fun _ => sc__law_picture.nd)) tsn (qadd (qv 7) (qmul (qlst (qac (qix (qv 0) qint) qan)) (qsub (qv 3) (qv 4)))) (fun _ => blkOk_by (own := [("line", 7)]) (N := N__law_picture) (sc := defScope s__law_picture) (by decide +kernel)) (hnd := fun _ => sc__law_picture.nd))) qan)))))
 (b1 (sfrz 2 (sret (qtup (qac (qv 3) (qac (qv 2) qan)))))))))))))
abbrev s__law_lines_of : Stmt := top 26
abbrev N__law_lines_of : List Str := ["node", "above", "lines", "child"]
theorem sc__law_lines_of : FnScope N__law_lines_of ["node", "above", "lines"] (defScope s__law_lines_of) := ⟨rfl, rfl, rfl, by decide +kernel, rfl, by decide +kernel, by decide +kernel⟩
theorem w__law_lines_of {lv : Nat} {sm : S3} (me : C3 P w K mg base lv "_law_lines_of" [.shr, .shr, .par] sm) : QB K (CxR lv P w K mg base N__law_lines_of "_law_lines_of" (defScope s__law_lines_of) f) (defBody s__law_lines_of) (b__law_lines_of A sm) :=
  have hR : ∀ i, Room lv (CxR lv P w K mg base N__law_lines_of "_law_lines_of" (defScope s__law_lines_of) f i).A := fun i => i.2
  (bc (sdput hR (qadd (qv 1) (qlst (qac (qix (qv 0) qint) qan))) (qv 2) (qix (qv 0) qint))
 (b1 (sfor (iseq (qix (qv 0) qint)) (gn 3 (hnd := fun _ => sc__law_lines_of.nd))
 (b1 (sexpr (qcall (fun _ => me) hR (Nat.le_refl _) (qac (qv 3) (qac (qdget hR (qv 2) (qix (qv 0) qint)) (qac (qv 2) qan)))))))))
abbrev s__law_tree : Stmt := top 27
abbrev N__law_tree : List Str := ["bag", "flat", "mark", "label", "depth"]
theorem sc__law_tree : FnScope N__law_tree ["bag"] (defScope s__law_tree) := ⟨rfl, rfl, rfl, by decide +kernel, rfl, by decide +kernel, by decide +kernel⟩
theorem w__law_tree (d__law_pick : C3 P w K mg base 2 "_law_pick" [.par, .shr] (sp__law_pick A)) (d__law_marks : C3 P w K mg base 4 "_law_marks" [.par, .shr] (sp__law_marks A)) (d__law_flat : C3 P w K mg base 5 "_law_flat" [.par, .shr, .shr] (sp__law_flat A)) (d__law_grown : C3 P w K mg base 1 "_law_grown" [.shr] (sp__law_grown A)) : QB K (CxR 5 P w K mg base N__law_tree "_law_tree" (defScope s__law_tree) f) (defBody s__law_tree) (b__law_tree A) :=
  have hR : ∀ i, Room 5 (CxR 5 P w K mg base N__law_tree "_law_tree" (defScope s__law_tree) f i).A := fun i => i.2
  (bc (sif (t2 (cEq hR) (qcall (fun _ => d__law_pick) hR (by decide) (qac (qv 0) (qac qint qan))) qint)
 (bc (sset 1 (qcall (fun _ => d__law_flat) hR (by decide) (qac (qv 0) (qac (qcall (fun _ => d__law_marks) hR (by decide) (qac (qv 0) (qac (qadd qint (qcall (fun _ => d__law_pick) hR (by decide) (qac (qv 0) (qac qint qan)))) qan))) (qac qint qan)))) (hnd := fun _ => sc__law_tree.nd))
 (b1 (sret (qcall (fun _ => d__law_grown) hR (by decide) (qac (QO.sh (olc [("mark", 2), ("label", 3), ("depth", 4)] (iseq (qv 1)) (gtup (gsc (gn 2 (hnd := fun _ => sc__law_tree.nd)) (gsc (gn 3 (hnd := fun _ => sc__law_tree.nd)) (gsc (gn 4 (hnd := fun _ => sc__law_tree.nd)) gsn)))) tsn (qtup (qac (qv 2) (qac (qsl (qv 3) qno (qpart qint)) (qac (qv 4) qan)))) (fun _ => blkOk_by (own := [("mark", 2), ("label", 3), ("depth", 4)]) (N := N__law_tree) (sc := defScope s__law_tree) (by decide +kernel)) (hnd := fun _ => sc__law_tree.nd))) qan)))))
 bn)
 (b1 (sret (qcall (fun _ => d__law_grown) hR (by decide) (qac (qcall (fun _ => d__law_flat) hR (by decide) (qac (qv 0) (qac (qcall (fun _ => d__law_marks) hR (by decide) (qac (qv 0) (qac (qadd qint (qcall (fun _ => d__law_pick) hR (by decide) (qac (qv 0) (qac qint qan)))) qan))) (qac qint qan)))) qan)))))
abbrev s__law_holds : Stmt := top 28
abbrev N__law_holds : List Str := ["box", "x", "y"]
theorem sc__law_holds : FnScope N__law_holds ["box", "x", "y"] (defScope s__law_holds) := ⟨rfl, rfl, rfl, by decide +kernel, rfl, by decide +kernel, by decide +kernel⟩
theorem w__law_holds  : QB K (CxR 0 P w K mg base N__law_holds "_law_holds" (defScope s__law_holds) f) (defBody s__law_holds) (b__law_holds A) :=
  have hR : ∀ i, Room 0 (CxR 0 P w K mg base N__law_holds "_law_holds" (defScope s__law_holds) f i).A := fun i => i.2
  (b1 (sret (qAnd (q2 cLe (qix (qv 0) qint) (qv 1)) (qAnd (q2 cLt (qv 1) (qadd (qix (qv 0) qint) (qix (qv 0) qint))) (qAnd (q2 cLe (qix (qv 0) qint) (qv 2)) (q1b (q2 cLt (qv 2) (qadd (qix (qv 0) qint) (qix (qv 0) qint)))))))))
abbrev s_law : Stmt := top 29
abbrev N_law : List Str := ["script", "bag", "tree", "laid", "wide", "picture", "high", "above", "boxes", "counts", "mark", "y", "x", "told", "off"]
theorem sc_law : FnScope N_law ["script"] (defScope s_law) := ⟨rfl, rfl, rfl, by decide +kernel, rfl, by decide +kernel, by decide +kernel⟩
theorem w_law (d__law_bag : C3 P w K mg base 1 "_law_bag" [.shr] (sp__law_bag A)) (d__law_tree : C3 P w K mg base 6 "_law_tree" [.par] (sp__law_tree A)) (k_Page : Mk3 P w K mg base 2 "Page" A.Page [.shr] (sp_Page___init__ A)) (k_Laid : Mk3 P w K mg base 4 "Laid" A.Laid [.shr] (sp_Laid___init__ A)) (d__law_picture : C3 P w K mg base 7 "_law_picture" [.shr] (sp__law_picture A)) (m_len : mg "len" = none) (d__law_lines_of : C3 P w K mg base 7 "_law_lines_of" [.shr, .shr, .par] (sp__law_lines_of A)) (s_Laid_get : Sm3 P w K mg base 1 A.Laid "__getitem__" [.shr, .shr] (sp_Laid___getitem__ A)) (m_range : mg "range" = none) (m_Laid_hit : Me3 P w K mg base 1 A.Laid "hit" [.shr, .shr, .shr] (sp_Laid_hit A)) (m_str : mg "str" = none) (m_isinstance : mg "isinstance" = none) (d__law_holds : C3 P w K mg base 1 "_law_holds" [.shr, .shr, .shr] (sp__law_holds A)) (d__law_pick : C3 P w K mg base 2 "_law_pick" [.par, .shr] (sp__law_pick A)) : QB K (CxR 7 P w K mg base N_law "law" (defScope s_law) f) (defBody s_law) (b_law A) :=
  have hR : ∀ i, Room 7 (CxR 7 P w K mg base N_law "law" (defScope s_law) f i).A := fun i => i.2
  (bc (ssetO 1 (ocall (fun _ => d__law_bag) hR (by decide) (qac (qv 0) qan)) (hnd := fun _ => sc_law.nd))
 (bc (sset 2 (qcall (fun _ => d__law_tree) hR (by decide) (qac (qv 1) qan)) (hnd := fun _ => sc_law.nd))
 (bc (sset 3 (QO.sh (omake (fun _ => k_Laid) hR (by decide) (qac (QO.sh (omake (fun _ => k_Page) hR (by decide) (qac (qv 2) qan))) qan))) (hnd := fun _ => sc_law.nd))
 (bc (sasg (qcall (fun _ => d__law_picture) hR (by decide) (qac (qv 2) qan)) (gtup (gsc (gn 4 (hnd := fun _ => sc_law.nd)) (gsc (gn 5 (hnd := fun _ => sc_law.nd)) gsn))))
 (bc (sset 6 (qlen (fun _ => m_len) (qac (qv 5) qan)) (hnd := fun _ => sc_law.nd))
 (bc (ssetO 7 odicE (hnd := fun _ => sc_law.nd))
 (bc (sexpr (qcall (fun _ => d__law_lines_of) hR (by decide) (qac (qv 2) (qac (qlst qan) (qac (qv 7) qan)))))
 (bc (sfrzK 7 (ssetO 8 odicE (hnd := fun _ => sc_law.nd)))
 (bc (ssetO 9 odicE (hnd := fun _ => sc_law.nd))
 (bc (sfor (ikys (qv 7)) (gn 10 (hnd := fun _ => sc_law.nd))
 (bc (sdput hR (qgetO (fun _ => s_Laid_get) hR (by decide) (qv 3) (qv 10)) (qv 8) (qv 10))
 (b1 (sdput hR qint (qv 9) (qv 10)))))
 (bc (sfor (irng2 (fun _ => m_range) (qac (qneg qint) (qac (qadd (qv 6) qint) qan))) (gn 11 (hnd := fun _ => sc_law.nd))
 (b1 (sfor (irng2 (fun _ => m_range) (qac (qneg qint) (qac (qadd (qv 4) qint) qan))) (gn 12 (hnd := fun _ => sc_law.nd))
 (bc (sset 13 (qmeth (fun _ => m_Laid_hit) hR (by decide) (qv 3) (qac (qv 12) (qac (qv 11) qan))) (hnd := fun _ => sc_law.nd))
 (b1 (sif (QW.t (wor (t2 cLt (qv 12) qint) (wor (t2 cLt (qv 11) qint) (wor (t2 (cEq hR) (qv 12) (qv 4)) (wo1 (t2 (cEq hR) (qv 11) (qv 6)))))))
 (b1 (sif (t2 cNotN (qv 13) qnon)
 (b1 (sret qbl))
 bn))
 (b1 (sif (QW.t (wor (tNot' (ttru (qisi (fun _ => m_isinstance) (qac (qv 13) (qac (qty (T := "str") (fun _ => m_str)) qan))))) (wo1 (t2 (cNe hR) (qv 13) (qix (qix (qv 5) (qv 11)) (qv 12))))))
 (b1 (sret qbl))
 (b1 (sfor (iseq (qdget hR (qasd (qv 7)) (qv 13))) (gn 10 (hnd := fun _ => sc_law.nd))
 (bc (sif (tNot' (ttru (qcall (fun _ => d__law_holds) hR (by decide) (qac (qdget hR (qv 8) (qv 10)) (qac (qv 12) (qac (qv 11) qan))))))
 (b1 (sret qbl))
 bn)
 (b1 (sdput hR (qadd (qdget hR (qv 9) (qv 10)) qint) (qv 9) (qv 10))))))))))))))
 (bc (sfor (ikys (qv 7)) (gn 10 (hnd := fun _ => sc_law.nd))
 (b1 (sif (t2 (cNe hR) (qdget hR (qv 9) (qv 10)) (qmul (qix (qdget hR (qv 8) (qv 10)) qint) (qix (qdget hR (qv 8) (qv 10)) qint)))
 (b1 (sret qbl))
 bn)))
 (bc (sset 14 (qadd qint (qcall (fun _ => d__law_pick) hR (by decide) (qac (qv 1) (qac qint qan)))) (hnd := fun _ => sc_law.nd))
 (bc (sfor (iseq (qlst (qac (qtup (qac (qadd (qv 4) (qv 14)) (qac qint qan))) (qac (qtup (qac qint (qac (qadd (qv 6) (qv 14)) qan))) (qac (qtup (qac (qsub (qsub qint qint) (qv 14)) (qac qint qan))) (qac (qtup (qac qint (qac (qsub (qsub qint qint) (qv 14)) qan))) (qac (qtup (qac (qv 4) (qac (qadd (qv 6) (qv 14)) qan))) (qac (qtup (qac (qsub qint (qv 14)) (qac (qsub qint (qv 14)) qan))) qan)))))))) (gtup (gsc (gn 12 (hnd := fun _ => sc_law.nd)) (gsc (gn 11 (hnd := fun _ => sc_law.nd)) gsn)))
 (b1 (sif (t2 cNotN (qmeth (fun _ => m_Laid_hit) hR (by decide) (qv 3) (qac (qv 12) (qac (qv 11) qan))) qnon)
 (b1 (sret qbl))
 bn)))
 (b1 (sret qbl))))))))))))))))

end
end K18
end L3

set_option Elab.async false
set_option linter.all false
set_option maxRecDepth 100000
set_option maxHeartbeats 0
namespace L3
namespace K18
open PySem PySem.Spec L2
-- the zero cases stand in S18n, S18o
/-- what the top has made -/
structure Fa (K : PySem.W.Frag) (w : World) (mg : Str → Option Value) (A : Ad) : Prop where
  m_len : mg "len" = none
  g_MOST_NODES : ∃ u, mg "MOST_NODES" = some u ∧ RelV (.int 400) u
  c_Page : Cls K A.Page
  n_Page_tree : NoAttr K A.Page "tree"
  n_Page_nodes : NoAttr K A.Page "nodes"
  n_Page_above : NoAttr K A.Page "above"
  n_Page_order : NoAttr K A.Page "order"
  m_tuple : mg "tuple" = none
  c_Laid : Cls K A.Laid
  n_Laid_pairs : NoAttr K A.Laid "pairs"
  n_Laid_sizes : NoAttr K A.Laid "sizes"
  n_Laid_kept_page : NoAttr K A.Laid "kept_page"
  n_Laid_places : NoAttr K A.Laid "places"
  m_list : mg "list" = none
  n_Laid_marks : NoAttr K A.Laid "marks"
  m_int : mg "int" = none
  m_enumerate : mg "enumerate" = none
  m_abs : mg "abs" = none
  m_range : mg "range" = none
  m_str : mg "str" = none
  m_sum : mg "sum" = none
  m_isinstance : mg "isinstance" = none
  f_measure : ∃ f, Df K "measure" "measure" s_measure f ∧ mg "measure" = some (.ref f)
  f_from_below : ∃ f, Df K "from_below" "from_below" s_from_below f ∧ mg "from_below" = some (.ref f)
  f_rectangles : ∃ f, Df K "rectangles" "rectangles" s_rectangles f ∧ mg "rectangles" = some (.ref f)
  f_nodes_of : ∃ f, Df K "nodes_of" "nodes_of" s_nodes_of f ∧ mg "nodes_of" = some (.ref f)
  f_Page___init__ : ∃ f, Df K "__init__" "Page.__init__" s_Page___init__ f ∧ Mk K A.Page f ∧ mg "Page" = some (.ref A.Page)
  f_Page_top : ∃ p f, Df K "top" "Page.top" s_Page_top f ∧ PropOf K A.Page "top" p f
  f_Laid_measure_again : ∃ f, Df K "measure_again" "Laid.measure_again" s_Laid_measure_again f ∧ Meth K A.Laid "measure_again" f
  f_Laid___init__ : ∃ f, Df K "__init__" "Laid.__init__" s_Laid___init__ f ∧ Mk K A.Laid f ∧ mg "Laid" = some (.ref A.Laid)
  f_Laid___getitem__ : ∃ f, Df K "__getitem__" "Laid.__getitem__" s_Laid___getitem__ f ∧ PySem.W.findIn K (.ref A.Laid) "__getitem__" = some (some (.ref f)) ∧ PySem.W.fnIn K f = true ∧ PySem.W.isFn K (.ref f) = true ∧ PySem.W.noSeq K A.Laid = true
  f_Laid_hit : ∃ f, Df K "hit" "Laid.hit" s_Laid_hit f ∧ Meth K A.Laid "hit" f
  f__law_mixed : ∃ f, Df K "_law_mixed" "_law_mixed" s__law_mixed f ∧ mg "_law_mixed" = some (.ref f)
  f__law_bag : ∃ f, Df K "_law_bag" "_law_bag" s__law_bag f ∧ mg "_law_bag" = some (.ref f)
  f__law_pick : ∃ f, Df K "_law_pick" "_law_pick" s__law_pick f ∧ mg "_law_pick" = some (.ref f)
  f__law_choice : ∃ f, Df K "_law_choice" "_law_choice" s__law_choice f ∧ mg "_law_choice" = some (.ref f)
  f__law_text : ∃ f, Df K "_law_text" "_law_text" s__law_text f ∧ mg "_law_text" = some (.ref f)
  f__law_label : ∃ f, Df K "_law_label" "_law_label" s__law_label f ∧ mg "_law_label" = some (.ref f)
  f__law_marks : ∃ f, Df K "_law_marks" "_law_marks" s__law_marks f ∧ mg "_law_marks" = some (.ref f)
  f__law_flat : ∃ f, Df K "_law_flat" "_law_flat" s__law_flat f ∧ mg "_law_flat" = some (.ref f)
  f__law_grown : ∃ f, Df K "_law_grown" "_law_grown" s__law_grown f ∧ mg "_law_grown" = some (.ref f)
  f__law_picture : ∃ f, Df K "_law_picture" "_law_picture" s__law_picture f ∧ mg "_law_picture" = some (.ref f)
  f__law_lines_of : ∃ f, Df K "_law_lines_of" "_law_lines_of" s__law_lines_of f ∧ mg "_law_lines_of" = some (.ref f)
  f__law_tree : ∃ f, Df K "_law_tree" "_law_tree" s__law_tree f ∧ mg "_law_tree" = some (.ref f)
  f__law_holds : ∃ f, Df K "_law_holds" "_law_holds" s__law_holds f ∧ mg "_law_holds" = some (.ref f)
  f_law : ∃ f, Df K "law" "law" s_law f ∧ mg "law" = some (.ref f)
theorem bd_measure : BindN "measure" "measure" s_measure ["label", "sizes"] := fun _ _ _ _ _ _ us hl => match us, hl with | [_, _], _ => rfl
theorem bd_from_below : BindN "from_below" "from_below" s_from_below ["root"] := fun _ _ _ _ _ _ us hl => match us, hl with | [_], _ => rfl
theorem bd_rectangles : BindN "rectangles" "rectangles" s_rectangles ["root", "sizes"] := fun _ _ _ _ _ _ us hl => match us, hl with | [_, _], _ => rfl
theorem bd_nodes_of : BindN "nodes_of" "nodes_of" s_nodes_of ["root"] := fun _ _ _ _ _ _ us hl => match us, hl with | [_], _ => rfl
theorem bd_Page___init__ : BindN "__init__" "Page.__init__" s_Page___init__ ["self", "root"] := fun _ _ _ _ _ _ us hl => match us, hl with | [_, _], _ => rfl
theorem bd_Page_top : BindN "top" "Page.top" s_Page_top ["self"] := fun _ _ _ _ _ _ us hl => match us, hl with | [_], _ => rfl
theorem bd_Laid_measure_again : BindN "measure_again" "Laid.measure_again" s_Laid_measure_again ["self", "page"] := fun _ _ _ _ _ _ us hl => match us, hl with | [_, _], _ => rfl
theorem bd_Laid___init__ : BindN "__init__" "Laid.__init__" s_Laid___init__ ["self", "page"] := fun _ _ _ _ _ _ us hl => match us, hl with | [_, _], _ => rfl
theorem bd_Laid___getitem__ : BindN "__getitem__" "Laid.__getitem__" s_Laid___getitem__ ["self", "mark"] := fun _ _ _ _ _ _ us hl => match us, hl with | [_, _], _ => rfl
theorem bd_Laid_hit : BindN "hit" "Laid.hit" s_Laid_hit ["self", "x", "y"] := fun _ _ _ _ _ _ us hl => match us, hl with | [_, _, _], _ => rfl
theorem bd__law_mixed : BindN "_law_mixed" "_law_mixed" s__law_mixed ["number", "turn"] := fun _ _ _ _ _ _ us hl => match us, hl with | [_, _], _ => rfl
theorem bd__law_bag : BindN "_law_bag" "_law_bag" s__law_bag ["script"] := fun _ _ _ _ _ _ us hl => match us, hl with | [_], _ => rfl
theorem bd__law_pick : BindN "_law_pick" "_law_pick" s__law_pick ["bag", "many"] := fun _ _ _ _ _ _ us hl => match us, hl with | [_, _], _ => rfl
theorem bd__law_choice : BindN "_law_choice" "_law_choice" s__law_choice ["bag", "things"] := fun _ _ _ _ _ _ us hl => match us, hl with | [_, _], _ => rfl
theorem bd__law_text : BindN "_law_text" "_law_text" s__law_text ["bag", "least", "most"] := fun _ _ _ _ _ _ us hl => match us, hl with | [_, _, _], _ => rfl
theorem bd__law_label : BindN "_law_label" "_law_label" s__law_label ["bag"] := fun _ _ _ _ _ _ us hl => match us, hl with | [_], _ => rfl
theorem bd__law_marks : BindN "_law_marks" "_law_marks" s__law_marks ["bag", "count"] := fun _ _ _ _ _ _ us hl => match us, hl with | [_, _], _ => rfl
theorem bd__law_flat : BindN "_law_flat" "_law_flat" s__law_flat ["bag", "marks", "deepest"] := fun _ _ _ _ _ _ us hl => match us, hl with | [_, _, _], _ => rfl
theorem bd__law_grown : BindN "_law_grown" "_law_grown" s__law_grown ["flat"] := fun _ _ _ _ _ _ us hl => match us, hl with | [_], _ => rfl
theorem bd__law_picture : BindN "_law_picture" "_law_picture" s__law_picture ["node"] := fun _ _ _ _ _ _ us hl => match us, hl with | [_], _ => rfl
theorem bd__law_lines_of : BindN "_law_lines_of" "_law_lines_of" s__law_lines_of ["node", "above", "lines"] := fun _ _ _ _ _ _ us hl => match us, hl with | [_, _, _], _ => rfl
theorem bd__law_tree : BindN "_law_tree" "_law_tree" s__law_tree ["bag"] := fun _ _ _ _ _ _ us hl => match us, hl with | [_], _ => rfl
theorem bd__law_holds : BindN "_law_holds" "_law_holds" s__law_holds ["box", "x", "y"] := fun _ _ _ _ _ _ us hl => match us, hl with | [_, _, _], _ => rfl
theorem bd_law : BindN "law" "law" s_law ["script"] := fun _ _ _ _ _ _ us hl => match us, hl with | [_], _ => rfl
section
variable {P : Program} {w : World} {K : PySem.W.Frag} {mg : Str → Option Value} {base : Heap} {A : Ad}
theorem ok_measure (T : Fa K w mg A) : C3 P w K mg base 1 "measure" [.shr, .shr] (sp_measure A) := ck T.f_measure bd_measure sc_measure rfl rfl (fun f => w_measure T.m_len) (t_measure A)
theorem ok_from_below (T : Fa K w mg A) : C3 P w K mg base 1 "from_below" [.shr] (sp_from_below A) := ck T.f_from_below bd_from_below sc_from_below rfl rfl (fun f => w_from_below ) (t_from_below A)
theorem ok_rectangles (T : Fa K w mg A) : C3 P w K mg base 1 "rectangles" [.shr, .shr] (sp_rectangles A) := ck T.f_rectangles bd_rectangles sc_rectangles rfl rfl (fun f => w_rectangles ) (t_rectangles A)
theorem ok_nodes_of (T : Fa K w mg A) : C3 P w K mg base 1 "nodes_of" [.shr] (sp_nodes_of A) := ck T.f_nodes_of bd_nodes_of sc_nodes_of rfl rfl (fun f => w_nodes_of ) (t_nodes_of A)
theorem ok_Page___init__ (T : Fa K w mg A) : Mk3 P w K mg base 2 "Page" A.Page [.shr] (sp_Page___init__ A) := mk3 T.f_Page___init__ bd_Page___init__ sc_Page___init__ rfl rfl (fun f => w_Page___init__ (ok_nodes_of T) T.m_len T.g_MOST_NODES T.c_Page T.n_Page_tree T.n_Page_nodes T.n_Page_above T.n_Page_order) (t_Page___init__ A)
theorem ok_Page_top (T : Fa K w mg A) : Pr3 P w K mg base 1 A.Page "top" .shr (sp_Page_top A) := pr3 T.c_Page T.f_Page_top bd_Page_top sc_Page_top rfl rfl (fun f => w_Page_top T.c_Page T.n_Page_tree) (t_Page_top A)
theorem ok_Laid_measure_again (T : Fa K w mg A) : Me3 P w K mg base 3 A.Laid "measure_again" [.par, .shr] (sp_Laid_measure_again A) := me3 T.c_Laid T.f_Laid_measure_again bd_Laid_measure_again sc_Laid_measure_again rfl rfl (fun f => w_Laid_measure_again (ok_Page_top T) (ok_from_below T) T.m_tuple T.c_Laid T.n_Laid_pairs T.n_Laid_sizes (ok_measure T) T.n_Laid_kept_page (ok_rectangles T) T.n_Laid_places T.m_list T.n_Laid_marks) (t_Laid_measure_again A)
theorem ok_Laid___init__ (T : Fa K w mg A) : Mk3 P w K mg base 4 "Laid" A.Laid [.shr] (sp_Laid___init__ A) := mk3 T.f_Laid___init__ bd_Laid___init__ sc_Laid___init__ rfl rfl (fun f => w_Laid___init__ T.c_Laid T.n_Laid_kept_page T.n_Laid_pairs T.n_Laid_sizes T.n_Laid_places T.n_Laid_marks (ok_Laid_measure_again T)) (t_Laid___init__ A)
theorem ok_Laid___getitem__ (T : Fa K w mg A) : Sm3 P w K mg base 1 A.Laid "__getitem__" [.shr, .shr] (sp_Laid___getitem__ A) := sm3 T.f_Laid___getitem__ bd_Laid___getitem__ sc_Laid___getitem__ rfl rfl (fun f => w_Laid___getitem__ T.c_Laid T.n_Laid_places) (t_Laid___getitem__ A)
theorem ok_Laid_hit (T : Fa K w mg A) : Me3 P w K mg base 1 A.Laid "hit" [.shr, .shr, .shr] (sp_Laid_hit A) := me3 T.c_Laid T.f_Laid_hit bd_Laid_hit sc_Laid_hit rfl rfl (fun f => w_Laid_hit T.c_Laid T.n_Laid_marks T.n_Laid_places) (t_Laid_hit A)
theorem ok__law_mixed (T : Fa K w mg A) : C3 P w K mg base 1 "_law_mixed" [.shr, .shr] (sp__law_mixed A) := ck T.f__law_mixed bd__law_mixed sc__law_mixed rfl rfl (fun f => w__law_mixed T.m_int) (t__law_mixed A)
theorem ok__law_bag (T : Fa K w mg A) : C3 P w K mg base 1 "_law_bag" [.shr] (sp__law_bag A) := ck T.f__law_bag bd__law_bag sc__law_bag rfl rfl (fun f => w__law_bag T.m_int T.m_len T.m_enumerate T.m_abs) (t__law_bag A)
theorem ok__law_pick (T : Fa K w mg A) : C3 P w K mg base 2 "_law_pick" [.par, .shr] (sp__law_pick A) := ck T.f__law_pick bd__law_pick sc__law_pick rfl rfl (fun f => w__law_pick T.m_int T.m_len T.m_abs (ok__law_mixed T)) (t__law_pick A)
theorem ok__law_choice (T : Fa K w mg A) : C3 P w K mg base 3 "_law_choice" [.par, .shr] (sp__law_choice A) := ck T.f__law_choice bd__law_choice sc__law_choice rfl rfl (fun f => w__law_choice T.m_len (ok__law_pick T)) (t__law_choice A)
theorem ok__law_text (T : Fa K w mg A) : C3 P w K mg base 3 "_law_text" [.par, .shr, .shr] (sp__law_text A) := ck T.f__law_text bd__law_text sc__law_text rfl rfl (fun f => w__law_text (ok__law_pick T) T.m_range T.m_len) (t__law_text A)
theorem ok__law_label (T : Fa K w mg A) : C3 P w K mg base 4 "_law_label" [.par] (sp__law_label A) := ck T.f__law_label bd__law_label sc__law_label rfl rfl (fun f => w__law_label (ok__law_pick T) T.m_str (ok__law_text T) (ok__law_choice T)) (t__law_label A)
theorem ok__law_marks (T : Fa K w mg A) : C3 P w K mg base 4 "_law_marks" [.par, .shr] (sp__law_marks A) := ck T.f__law_marks bd__law_marks sc__law_marks rfl rfl (fun f => w__law_marks (ok__law_pick T) (ok__law_text T) T.m_range T.m_int T.m_str) (t__law_marks A)
theorem ok__law_flat (T : Fa K w mg A) : C3 P w K mg base 5 "_law_flat" [.par, .shr, .shr] (sp__law_flat A) := ck T.f__law_flat bd__law_flat sc__law_flat rfl rfl (fun f => w__law_flat (ok__law_label T) (ok__law_pick T)) (t__law_flat A)
theorem ok__law_grown (T : Fa K w mg A) : C3 P w K mg base 1 "_law_grown" [.shr] (sp__law_grown A) := ck T.f__law_grown bd__law_grown sc__law_grown rfl rfl (fun f => w__law_grown T.m_len T.m_range T.m_tuple) (t__law_grown A)
theorem ok__law_picture_rec (T : Fa K w mg A) : ∀ n, C3 P w K mg base (1 + n) "_law_picture" [.shr] (sp__law_picture' n)
  | 0 => ck0 T.f__law_picture bd__law_picture sc__law_picture (z__law_picture)
  | n + 1 => have me := ok__law_picture_rec T n
    ck T.f__law_picture bd__law_picture sc__law_picture rfl rfl (fun f => w__law_picture T.m_len me T.m_range T.m_sum) (t__law_picture A n)
theorem ok__law_picture (T : Fa K w mg A) : C3 P w K mg base 7 "_law_picture" [.shr] (sp__law_picture A) := ok__law_picture_rec T 6
theorem ok__law_lines_of_rec (T : Fa K w mg A) : ∀ n, C3 P w K mg base (1 + n) "_law_lines_of" [.shr, .shr, .par] (sp__law_lines_of' n)
  | 0 => ck0 T.f__law_lines_of bd__law_lines_of sc__law_lines_of (z__law_lines_of)
  | n + 1 => have me := ok__law_lines_of_rec T n
    ck T.f__law_lines_of bd__law_lines_of sc__law_lines_of rfl rfl (fun f => w__law_lines_of me) (t__law_lines_of A n)
theorem ok__law_lines_of (T : Fa K w mg A) : C3 P w K mg base 7 "_law_lines_of" [.shr, .shr, .par] (sp__law_lines_of A) := ok__law_lines_of_rec T 6
theorem ok__law_tree (T : Fa K w mg A) : C3 P w K mg base 6 "_law_tree" [.par] (sp__law_tree A) := ck T.f__law_tree bd__law_tree sc__law_tree rfl rfl (fun f => w__law_tree (ok__law_pick T) (ok__law_marks T) (ok__law_flat T) (ok__law_grown T)) (t__law_tree A)
theorem ok__law_holds (T : Fa K w mg A) : C3 P w K mg base 1 "_law_holds" [.shr, .shr, .shr] (sp__law_holds A) := ck T.f__law_holds bd__law_holds sc__law_holds rfl rfl (fun f => w__law_holds ) (t__law_holds A)
theorem law_F (T : Fa K w mg A) {fa : Addr} (h : mg "law" = some (.ref fa)) : ∃ fd : FuncData, (∀ (s : Shared) (u : Value), BindsTo s fd ⟨[u], []⟩ [("script", u)]) ∧ ∀ base : Heap, FnOk P w K mg base CX0 (7 + 1) fa fd ["script"] (Lift K [.shr] (sp_law A)) := by
  obtain ⟨f, F, hm⟩ := T.f_law
  cases hm.symm.trans h
  obtain ⟨fd, F⟩ := F.ex
  exact ⟨fd, fun s u => F.bindsA bd_law s [u] rfl, fun base => fn3 F sc_law rfl rfl (w_law (ok__law_bag T) (ok__law_tree T) (ok_Page___init__ T) (ok_Laid___init__ T) (ok__law_picture T) T.m_len (ok__law_lines_of T) (ok_Laid___getitem__ T) T.m_range (ok_Laid_hit T) T.m_str T.m_isinstance (ok__law_holds T) (ok__law_pick T)) (t_law A)⟩
end
theorem walk {l : PySem.W.OpenLaw} {q : Program} {loose : List Str} {XP : (Str → Option Value) → Heap → Prop} {YP : World → Heap → Prop} {d : DefRec} {K : Params → PySem.W.Frag} (hn : l.most = some 63) (hdf : d.params.defaults = []) (hd : d.name = "law")
    (hY : ∀ (w : World) (h : Heap), YP w h → (K w.params).In h)
    (F : ∀ (w : World) (mg : Str → Option Value) (h : Heap), (K w.params).In h → h.Ns mainGlobals mg → ∃ A, Fa (K w.params) w mg A) : PySem.W.WalkO q loose XP YP l.row.toRowW d [] (fun f vs => PySem.call f vs) :=
  L2.walk_of (n := 63) (k := 8) (x := "script") (CX := fun _ => CX0) (sp := fun w => Lift (K w.params) [.shr] (sp_law ⟨0, 0⟩)) hn (by decide) hdf ⟨rfl, by decide, by decide⟩ hY
    (fun w mg fa h X G e => by
      obtain ⟨A, T⟩ := F w mg h X G
      obtain ⟨fd, h1, h2⟩ := law_F T (P := l.prog) (hd ▸ e)
      exact ⟨fd, h1, fun base _ _ => h2 base⟩)
    (fun w H a ns hl hO hS => hsp3 (q := 63) (fun ns hl QO _ => ⟨ns, rfl, hl, rfl⟩) H a ns hl hO hS) fun _ _ _ _ _ z => z
structure FaX (K : PySem.W.Frag) (w : World) (mg : Str → Option Value) (Page Laid : Addr) : Prop where
  m_len : mg "len" = none
  g_MOST_NODES : ∃ u, mg "MOST_NODES" = some u ∧ RelV (.int 400) u
  c_Page : Cls K Page
  n_Page_tree : NoAttr K Page "tree"
  n_Page_nodes : NoAttr K Page "nodes"
  n_Page_above : NoAttr K Page "above"
  n_Page_order : NoAttr K Page "order"
  m_tuple : mg "tuple" = none
  c_Laid : Cls K Laid
  n_Laid_pairs : NoAttr K Laid "pairs"
  n_Laid_sizes : NoAttr K Laid "sizes"
  n_Laid_kept_page : NoAttr K Laid "kept_page"
  n_Laid_places : NoAttr K Laid "places"
  m_list : mg "list" = none
  n_Laid_marks : NoAttr K Laid "marks"
  m_int : mg "int" = none
  m_enumerate : mg "enumerate" = none
  m_abs : mg "abs" = none
  m_range : mg "range" = none
  m_str : mg "str" = none
  m_sum : mg "sum" = none
  m_isinstance : mg "isinstance" = none
  f_measure : ∃ f, Df K "measure" "measure" s_measure f ∧ mg "measure" = some (.ref f)
  f_from_below : ∃ f, Df K "from_below" "from_below" s_from_below f ∧ mg "from_below" = some (.ref f)
  f_rectangles : ∃ f, Df K "rectangles" "rectangles" s_rectangles f ∧ mg "rectangles" = some (.ref f)
  f_nodes_of : ∃ f, Df K "nodes_of" "nodes_of" s_nodes_of f ∧ mg "nodes_of" = some (.ref f)
  f_Page___init__ : ∃ f, Df K "__init__" "Page.__init__" s_Page___init__ f ∧ Mk K Page f ∧ mg "Page" = some (.ref Page)
  f_Page_top : ∃ p f, Df K "top" "Page.top" s_Page_top f ∧ PropOf K Page "top" p f
  f_Laid_measure_again : ∃ f, Df K "measure_again" "Laid.measure_again" s_Laid_measure_again f ∧ Meth K Laid "measure_again" f
  f_Laid___init__ : ∃ f, Df K "__init__" "Laid.__init__" s_Laid___init__ f ∧ Mk K Laid f ∧ mg "Laid" = some (.ref Laid)
  f_Laid___getitem__ : ∃ f, Df K "__getitem__" "Laid.__getitem__" s_Laid___getitem__ f ∧ PySem.W.findIn K (.ref Laid) "__getitem__" = some (some (.ref f)) ∧ PySem.W.fnIn K f = true ∧ PySem.W.isFn K (.ref f) = true ∧ PySem.W.noSeq K Laid = true
  f_Laid_hit : ∃ f, Df K "hit" "Laid.hit" s_Laid_hit f ∧ Meth K Laid "hit" f
  f__law_mixed : ∃ f, Df K "_law_mixed" "_law_mixed" s__law_mixed f ∧ mg "_law_mixed" = some (.ref f)
  f__law_bag : ∃ f, Df K "_law_bag" "_law_bag" s__law_bag f ∧ mg "_law_bag" = some (.ref f)
  f__law_pick : ∃ f, Df K "_law_pick" "_law_pick" s__law_pick f ∧ mg "_law_pick" = some (.ref f)
  f__law_choice : ∃ f, Df K "_law_choice" "_law_choice" s__law_choice f ∧ mg "_law_choice" = some (.ref f)
  f__law_text : ∃ f, Df K "_law_text" "_law_text" s__law_text f ∧ mg "_law_text" = some (.ref f)
  f__law_label : ∃ f, Df K "_law_label" "_law_label" s__law_label f ∧ mg "_law_label" = some (.ref f)
  f__law_marks : ∃ f, Df K "_law_marks" "_law_marks" s__law_marks f ∧ mg "_law_marks" = some (.ref f)
  f__law_flat : ∃ f, Df K "_law_flat" "_law_flat" s__law_flat f ∧ mg "_law_flat" = some (.ref f)
  f__law_grown : ∃ f, Df K "_law_grown" "_law_grown" s__law_grown f ∧ mg "_law_grown" = some (.ref f)
  f__law_picture : ∃ f, Df K "_law_picture" "_law_picture" s__law_picture f ∧ mg "_law_picture" = some (.ref f)
  f__law_lines_of : ∃ f, Df K "_law_lines_of" "_law_lines_of" s__law_lines_of f ∧ mg "_law_lines_of" = some (.ref f)
  f__law_tree : ∃ f, Df K "_law_tree" "_law_tree" s__law_tree f ∧ mg "_law_tree" = some (.ref f)
  f__law_holds : ∃ f, Df K "_law_holds" "_law_holds" s__law_holds f ∧ mg "_law_holds" = some (.ref f)
  f_law : ∃ f, Df K "law" "law" s_law f ∧ mg "law" = some (.ref f)
theorem FaX.fa {K : PySem.W.Frag} {w : World} {mg : Str → Option Value} {Page Laid : Addr} (t : FaX K w mg Page Laid) : Fa K w mg ⟨Page, Laid⟩ := ⟨t.m_len, t.g_MOST_NODES, t.c_Page, t.n_Page_tree, t.n_Page_nodes, t.n_Page_above, t.n_Page_order, t.m_tuple, t.c_Laid, t.n_Laid_pairs, t.n_Laid_sizes, t.n_Laid_kept_page, t.n_Laid_places, t.m_list, t.n_Laid_marks, t.m_int, t.m_enumerate, t.m_abs, t.m_range, t.m_str, t.m_sum, t.m_isinstance, t.f_measure, t.f_from_below, t.f_rectangles, t.f_nodes_of, t.f_Page___init__, t.f_Page_top, t.f_Laid_measure_again, t.f_Laid___init__, t.f_Laid___getitem__, t.f_Laid_hit, t.f__law_mixed, t.f__law_bag, t.f__law_pick, t.f__law_choice, t.f__law_text, t.f__law_label, t.f__law_marks, t.f__law_flat, t.f__law_grown, t.f__law_picture, t.f__law_lines_of, t.f__law_tree, t.f__law_holds, t.f_law⟩
theorem fa_mk {w : World} {K : PySem.W.Frag} {h : Heap} {mg : Str → Option Value} {Page Laid : Addr} (X : K.In h) (G : h.Ns mainGlobals mg) (aPage : PySem.W.nsIn K mainGlobals "Page" = some (some (.ref Page))) (aLaid : PySem.W.nsIn K mainGlobals "Laid" = some (some (.ref Laid))) (pgPage : PySem.W.plainGet K Page Str.empty = true) (hdPage : PySem.W.hasDictIn K Page = true) (poPage : PySem.W.plainOver K Page = true) (saPage : PySem.W.findIn K (.ref Page) "__setattr__" = some (some (.builtin "object.__setattr__"))) (pgLaid : PySem.W.plainGet K Laid Str.empty = true) (hdLaid : PySem.W.hasDictIn K Laid = true) (poLaid : PySem.W.plainOver K Laid = true) (saLaid : PySem.W.findIn K (.ref Laid) "__setattr__" = some (some (.builtin "object.__setattr__")))
    (T : Cls K Page → mg "Page" = some (.ref Page) → Cls K Laid → mg "Laid" = some (.ref Laid) → FaX K w mg Page Laid) : ∃ A, Fa K w mg A := ⟨_, (T ⟨pgPage, hdPage, poPage, saPage⟩ (PySem.W.mg_of X G aPage) ⟨pgLaid, hdLaid, poLaid, saLaid⟩ (PySem.W.mg_of X G aLaid)).fa⟩

end K18
end L3

open PySem PySem.W PyProof.Rows
set_option maxRecDepth 100000 in
set_option maxHeartbeats 0 in
theorem PySem.Challenge.cw_pagesheld_k18_whole_points_holds : PySem.Challenge.rw_pagesheld_k18_whole_points.Holds := by
  w_on; o_law; k_head; (case hw => w_witness2)
  k_fill
  refine L3.K18.walk (l := PySem.Challenge.rw_pagesheld_k18_whole_points) rfl rfl rfl (fun w h Y => PySem.W.kIn_of Y) ?F
  case F =>
    intro w mg h KX G
    refine' L3.K18.fa_mk KX G ?aPage ?aLaid ?pgPage ?hdPage ?poPage ?saPage ?pgLaid ?hdLaid ?poLaid ?saLaid ?T
    (case aPage => k_is); (case aLaid => k_is); (case pgPage => k_is); (case hdPage => k_is); (case poPage => k_is); (case saPage => k_is); (case pgLaid => k_is); (case hdLaid => k_is); (case poLaid => k_is); (case saLaid => k_is)
    intro hC_Page aC_Page hC_Laid aC_Laid
    refine' L3.K18.FaX.mk ?_ ?_ ?_ ?_ ?_ ?_ ?_ ?_ ?_ ?_ ?_ ?_ ?_ ?_ ?_ ?_ ?_ ?_ ?_ ?_ ?_ ?_ ?_ ?_ ?_ ?_ ?_ ?_ ?_ ?_ ?_ ?_ ?_ ?_ ?_ ?_ ?_ ?_ ?_ ?_ ?_ ?_ ?_ ?_ ?_ ?_
    · exact PySem.W.mg_none_of KX G (by k_is)
    · refine' L3.gl_mk KX G ?a ?r; (case a => k_is); (case r => first | exact rfl | exact ⟨_, rfl⟩)
    · exact hC_Page
    · show PySem.W.findIn _ _ _ = _; k_is
    · show PySem.W.findIn _ _ _ = _; k_is
    · show PySem.W.findIn _ _ _ = _; k_is
    · show PySem.W.findIn _ _ _ = _; k_is
    · exact PySem.W.mg_none_of KX G (by k_is)
    · exact hC_Laid
    · show PySem.W.findIn _ _ _ = _; k_is
    · show PySem.W.findIn _ _ _ = _; k_is
    · show PySem.W.findIn _ _ _ = _; k_is
    · show PySem.W.findIn _ _ _ = _; k_is
    · exact PySem.W.mg_none_of KX G (by k_is)
    · show PySem.W.findIn _ _ _ = _; k_is
    · exact PySem.W.mg_none_of KX G (by k_is)
    · exact PySem.W.mg_none_of KX G (by k_is)
    · exact PySem.W.mg_none_of KX G (by k_is)
    · exact PySem.W.mg_none_of KX G (by k_is)
    · exact PySem.W.mg_none_of KX G (by k_is)
    · exact PySem.W.mg_none_of KX G (by k_is)
    · exact PySem.W.mg_none_of KX G (by k_is)
    · refine' L3.dg_mk KX G ?a ?l ?c ?k; (case a => k_is); (case l => k_is); (case c => k_is); (case k => k_is)
    · refine' L3.dg_mk KX G ?a ?l ?c ?k; (case a => k_is); (case l => k_is); (case c => k_is); (case k => k_is)
    · refine' L3.dg_mk KX G ?a ?l ?c ?k; (case a => k_is); (case l => k_is); (case c => k_is); (case k => k_is)
    · refine' L3.dg_mk KX G ?a ?l ?c ?k; (case a => k_is); (case l => k_is); (case c => k_is); (case k => k_is)
    · refine' L3.dm_mk ?a ?l ?c ?k ?i ?m ?kp ?g; (case a => k_is); (case l => k_is); (case c => k_is); (case k => k_is); (case i => k_is); (case m => k_is); (case kp => k_is); (case g => exact aC_Page)
    · refine' L3.dp_mk ?a ?r ?g ?t ?l ?c ?k; (case a => k_is); (case r => k_is); (case g => k_is); (case t => k_is); (case l => k_is); (case c => k_is); (case k => k_is)
    · refine' L3.de_mk ?a ?l ?c ?k ?i; (case a => k_is); (case l => k_is); (case c => k_is); (case k => k_is); (case i => k_is)
    · refine' L3.dm_mk ?a ?l ?c ?k ?i ?m ?kp ?g; (case a => k_is); (case l => k_is); (case c => k_is); (case k => k_is); (case i => k_is); (case m => k_is); (case kp => k_is); (case g => exact aC_Laid)
    · refine' L3.dsm_mk ?a ?l ?c ?k ?fi ?i ?nsq; (case a => k_is); (case l => k_is); (case c => k_is); (case k => k_is); (case fi => k_is); (case i => k_is); (case nsq => k_is)
    · refine' L3.de_mk ?a ?l ?c ?k ?i; (case a => k_is); (case l => k_is); (case c => k_is); (case k => k_is); (case i => k_is)
    · refine' L3.dg_mk KX G ?a ?l ?c ?k; (case a => k_is); (case l => k_is); (case c => k_is); (case k => k_is)
    · refine' L3.dg_mk KX G ?a ?l ?c ?k; (case a => k_is); (case l => k_is); (case c => k_is); (case k => k_is)
    · refine' L3.dg_mk KX G ?a ?l ?c ?k; (case a => k_is); (case l => k_is); (case c => k_is); (case k => k_is)
    · refine' L3.dg_mk KX G ?a ?l ?c ?k; (case a => k_is); (case l => k_is); (case c => k_is); (case k => k_is)
    · refine' L3.dg_mk KX G ?a ?l ?c ?k; (case a => k_is); (case l => k_is); (case c => k_is); (case k => k_is)
    · refine' L3.dg_mk KX G ?a ?l ?c ?k; (case a => k_is); (case l => k_is); (case c => k_is); (case k => k_is)
    · refine' L3.dg_mk KX G ?a ?l ?c ?k; (case a => k_is); (case l => k_is); (case c => k_is); (case k => k_is)
    · refine' L3.dg_mk KX G ?a ?l ?c ?k; (case a => k_is); (case l => k_is); (case c => k_is); (case k => k_is)
    · refine' L3.dg_mk KX G ?a ?l ?c ?k; (case a => k_is); (case l => k_is); (case c => k_is); (case k => k_is)
    · refine' L3.dg_mk KX G ?a ?l ?c ?k; (case a => k_is); (case l => k_is); (case c => k_is); (case k => k_is)
    · refine' L3.dg_mk KX G ?a ?l ?c ?k; (case a => k_is); (case l => k_is); (case c => k_is); (case k => k_is)
    · refine' L3.dg_mk KX G ?a ?l ?c ?k; (case a => k_is); (case l => k_is); (case c => k_is); (case k => k_is)
    · refine' L3.dg_mk KX G ?a ?l ?c ?k; (case a => k_is); (case l => k_is); (case c => k_is); (case k => k_is)
    · refine' L3.dg_mk KX G ?a ?l ?c ?k; (case a => k_is); (case l => k_is); (case c => k_is); (case k => k_is)
